import PyProof.Rows.All
import Wide.All
import OpenK.AllK
import Wide.FinOn
import HandS.ForMost
import HandS.Defaults
import HandS.Deep
import HandS.TupAny
import HandS.TupMul
import HandS.IsInst
import HandS.Style
import HandS.Wide
import HandS.WideBits
import HandS.Conv
import KE.SortData
import HandS.More
import HandS.SetFor
import HandS.Head0
import HandS.Head1
import HandS.Head2
import HandS.HeadEnd
import HandS.HeadHook1
import HandS.HeadHook2
import HandS.Set
import PyProof.WalksMore
import KE.KStateDown
import HandS.Ends
import PySem.Challenge.RW_boatsout_k92_whole_moons_that_come_again
set_option Elab.async false
set_option linter.all false
set_option maxRecDepth 100000
set_option maxHeartbeats 4000000
/-! the data layer: values as trees D, a store of changeable lists and dicts, readings made by plain functions -/
namespace DL
open PySem PySem.Spec PyProof.Rows L2

inductive D where
  | non | bl (b : Bool) | int (i : Int) | str (x : Str) | tup (xs : List D) | lst (xs : List D) | frl (xs : List D) | frt (xs : List D)
  | dK (kvs : List (Key × D)) | dT (kvs : List (List Key × D))

/-- a tuple, a list that is read and stands still while L alone changes -/
def TupY (K : PySem.W.Frag) (L : List Addr) (H : Hp) (a : Addr) (xs : List V) : Prop :=
  (a ∉ L ∧ Rd H a (.tup xs)) ∨
    ∃ (o : Obj) (its : Array Value) (n : Nat), K.lookup a = some o ∧ o.cls = .type "tuple" ∧ o.data = .seq its n ∧ its.size ≤ sizeLine ∧ Vals xs its.toList
def LstY (K : PySem.W.Frag) (L : List Addr) (H : Hp) (a : Addr) (xs : List V) : Prop :=
  (a ∉ L ∧ Rd H a (.lst xs)) ∨
    ∃ (o : Obj) (its : Array Value) (n : Nat), K.lookup a = some o ∧ o.cls = .type "list" ∧ o.dict = none ∧ o.data = .seq its n ∧ its.size ≤ sizeLine ∧ Vals xs its.toList
theorem TupY.sq {K L H a xs} (h : TupY K L H a xs) : SqT K H a xs := by
  rcases h with h | h
  · exact .inl h.2
  · exact .inr h
theorem LstY.sq {K L H a xs} (h : LstY K L H a xs) : SqL K H a xs := by
  rcases h with h | h
  · exact .inl h.2
  · exact .inr h

mutual
inductive VD (K : PySem.W.Frag) (L : List Addr) (H : Hp) : V → D → Prop
  | non : VD K L H .non .non
  | bl (b : Bool) : VD K L H (.bl b) (.bl b)
  | int (i : Int) : VD K L H (.int i) (.int i)
  | str (x : Str) : VD K L H (.str x) (.str x)
  | tup {a : Addr} {xs : List V} {ds : List D} : a ∉ L → H a = some (.tup xs) → VDs K L H xs ds → VD K L H (.ref a) (.tup ds)
  | frt {a : Addr} {xs : List V} {ds : List D} : TupY K L H a xs → VDs K L H xs ds → VD K L H (.ref a) (.frt ds)
  | lst {a : Addr} {xs : List V} {ds : List D} : a ∉ L → H a = some (.lst xs) → VDs K L H xs ds → VD K L H (.ref a) (.lst ds)
  | frl {a : Addr} {xs : List V} {ds : List D} : LstY K L H a xs → VDs K L H xs ds → VD K L H (.ref a) (.frl ds)
  | dK {a : Addr} {kvs : List (Key × V)} {ds : List (Key × D)} : a ∉ L → Rd H a (.dK kvs) → kvs.map (·.1) = ds.map (·.1) → VDs K L H (kvs.map (·.2)) (ds.map (·.2)) → VD K L H (.ref a) (.dK ds)
  | dT {a : Addr} {kvs : List (List Key × V)} {ds : List (List Key × D)} : a ∉ L → Rd H a (.dT kvs) → kvs.map (·.1) = ds.map (·.1) → VDs K L H (kvs.map (·.2)) (ds.map (·.2)) → VD K L H (.ref a) (.dT ds)
inductive VDs (K : PySem.W.Frag) (L : List Addr) (H : Hp) : List V → List D → Prop
  | nil : VDs K L H [] []
  | cons {v : V} {vs : List V} {d : D} {ds : List D} : VD K L H v d → VDs K L H vs ds → VDs K L H (v :: vs) (d :: ds)
end

/-- the kinds of which a tree consists -/
def bas : HO → Bool
  | .lst _ => true
  | .tup _ => true
  | .dK _ => true
  | .dT _ => true
  | _ => false
def exa : HO → Bool
  | .lst _ => true
  | .tup _ => true
  | _ => false
/-- what stood outside L stands outside L' -/
def Mv (L : List Addr) (H : Hp) (L' : List Addr) (H' : Hp) : Prop := (∀ a u, a ∉ L → bas u = true → Rd H a u → a ∉ L' ∧ Rd H' a u) ∧ ∀ a u, a ∉ L → exa u = true → H a = some u → H' a = some u

section
variable {K : PySem.W.Frag} {L L' : List Addr} {H H' H2 : Hp}
theorem TupY.mv (m : Mv L H L' H') {a xs} (h : TupY K L H a xs) : TupY K L' H' a xs := by
  rcases h with ⟨h1, h2⟩ | h
  · exact .inl (m.1 _ _ h1 rfl h2)
  · exact .inr h
theorem LstY.mv (m : Mv L H L' H') {a xs} (h : LstY K L H a xs) : LstY K L' H' a xs := by
  rcases h with ⟨h1, h2⟩ | h
  · exact .inl (m.1 _ _ h1 rfl h2)
  · exact .inr h
mutual
theorem VD.mv (m : Mv L H L' H') : ∀ {v : V} {d : D}, VD K L H v d → VD K L' H' v d
  | _, _, .non => .non
  | _, _, .bl b => .bl b
  | _, _, .int b => .int b
  | _, _, .str b => .str b
  | _, _, .tup h1 h2 hs => .tup (m.1 _ _ h1 rfl (.inl h2)).1 (m.2 _ _ h1 rfl h2) (VDs.mv m hs)
  | _, _, .frt h hs => .frt (h.mv m) (VDs.mv m hs)
  | _, _, .lst h1 h2 hs => .lst (m.1 _ _ h1 rfl (.inl h2)).1 (m.2 _ _ h1 rfl h2) (VDs.mv m hs)
  | _, _, .frl h hs => .frl (h.mv m) (VDs.mv m hs)
  | _, _, .dK h1 h2 e hs => .dK (m.1 _ _ h1 rfl h2).1 (m.1 _ _ h1 rfl h2).2 e (VDs.mv m hs)
  | _, _, .dT h1 h2 e hs => .dT (m.1 _ _ h1 rfl h2).1 (m.1 _ _ h1 rfl h2).2 e (VDs.mv m hs)
theorem VDs.mv (m : Mv L H L' H') : ∀ {vs : List V} {ds : List D}, VDs K L H vs ds → VDs K L' H' vs ds
  | _, _, .nil => .nil
  | _, _, .cons h hs => .cons (VD.mv m h) (VDs.mv m hs)
end
end

/-- H' keeps all that stood outside L -/
def Fr (L : List Addr) (H H' : Hp) : Prop := ∀ a o, a ∉ L → H a = some o → H' a = some o
/-- H' keeps all -/
def Ext (H H' : Hp) : Prop := ∀ a o, H a = some o → H' a = some o
theorem Ext.refl (H : Hp) : Ext H H := fun _ _ h => h
theorem Ext.trans {H H1 H2 : Hp} (a : Ext H H1) (b : Ext H1 H2) : Ext H H2 := fun _ _ h => b _ _ (a _ _ h)
theorem Ext.new {H : Hp} {p : Addr} {o : HO} (h : H p = none) : Ext H (upd H p o) := fun a u e => by rw [upd_ne (ne_of_none e h)]; exact e
theorem Ext.fr {L : List Addr} {H H' : Hp} (e : Ext H H') : Fr L H H' := fun a o _ h => e a o h
theorem Fr.refl (L : List Addr) (H : Hp) : Fr L H H := fun _ _ _ h => h
theorem Fr.trans {L : List Addr} {H H1 H2 : Hp} (a : Fr L H H1) (b : Fr L H1 H2) : Fr L H H2 := fun x o n h => b x o n (a x o n h)
theorem Fr.mv {L : List Addr} {H H' : Hp} (f : Fr L H H') : Mv L H L H' := ⟨fun a u n _ r => ⟨n, by
  rcases r with r | ⟨o, r⟩
  · exact .inl (f a _ n r)
  · exact .inr ⟨o, f a _ n r⟩⟩, fun a xs n _ e => f a _ n e⟩
theorem Ext.rd {H H' : Hp} (e : Ext H H') {a : Addr} {u : HO} (r : Rd H a u) : Rd H' a u := by
  rcases r with r | ⟨o, r⟩
  · exact .inl (e _ _ r)
  · exact .inr ⟨o, e _ _ r⟩
/-- what stands outside S stands outside S', if L alone (within S) has changed and S' has but new things more -/
theorem mv_of {L S S' : List Addr} {H H' : Hp} (f : Fr L H H') (hL : ∀ a ∈ L, a ∈ S) (h : ∀ a ∈ S', a ∈ S ∨ H a = none) : Mv S H S' H' := by
  refine ⟨fun a u n _ r => ?_, fun a xs n _ e => f a _ (fun m => n (hL a m)) e⟩
  refine ⟨fun m => ?_, ?_⟩
  · rcases h a m with m | e
    · exact n m
    · rcases r with r | ⟨o, r⟩ <;> (rw [r] at e; cases e)
  · rcases r with r | ⟨o, r⟩
    · exact .inl (f a _ (fun m => n (hL a m)) r)
    · exact .inr ⟨o, f a _ (fun m => n (hL a m)) r⟩
theorem mv_sub {S S' : List Addr} {H : Hp} (h : ∀ a ∈ S', a ∈ S) : Mv S H S' H := ⟨fun a u n _ r => ⟨fun m => n (h a m), r⟩, fun _ _ _ _ e => e⟩
theorem Fr.mvM {M L : List Addr} {H H' : Hp} (f : Fr L H H') : Mv (M ++ L) H (M ++ L) H' := mv_of f (fun _ m => List.mem_append_right _ m) fun _ m => .inl m
theorem Ext.sqL {K : PySem.W.Frag} {H H' : Hp} (e : Ext H H') {a : Addr} {xs : List V} (r : SqL K H a xs) : SqL K H' a xs := by
  rcases r with r | r
  · exact .inl (e.rd r)
  · exact .inr r
theorem Ext.sqT {K : PySem.W.Frag} {H H' : Hp} (e : Ext H H') {a : Addr} {xs : List V} (r : SqT K H a xs) : SqT K H' a xs := by
  rcases r with r | r
  · exact .inl (e.rd r)
  · exact .inr r
theorem Rd.thr {H : Hp} {a : Addr} {u : HO} (r : Rd H a u) : ∃ o, H a = some o := by
  rcases r with r | ⟨o, r⟩
  · exact ⟨_, r⟩
  · exact ⟨_, r⟩

/-! ### the store -/
def CellAt (K : PySem.W.Frag) (L : List Addr) (H : Hp) (a : Addr) : D → Prop
  | .lst ds => ∃ vs, H a = some (.lst vs) ∧ VDs K L H vs ds
  | .dK ds => ∃ kvs, H a = some (.dK kvs) ∧ kvs.map (·.1) = ds.map (·.1) ∧ VDs K L H (kvs.map (·.2)) (ds.map (·.2))
  | .dT ds => ∃ kvs, H a = some (.dT kvs) ∧ kvs.map (·.1) = ds.map (·.1) ∧ VDs K L H (kvs.map (·.2)) (ds.map (·.2))
  | _ => ∃ o, H a = some o
abbrev Sto := List D
theorem CellAt.thr {K : PySem.W.Frag} {L : List Addr} {H : Hp} {a : Addr} {c : D} (h : CellAt K L H a c) : ∃ o, H a = .some o := by
  cases c <;> first | exact h | (obtain ⟨_, e, _⟩ := h; exact ⟨_, e⟩)
theorem CellAt.mv {K : PySem.W.Frag} {L L' : List Addr} {H H' : Hp} {a : Addr} {c : D} (h : CellAt K L H a c) (m : Mv L H L' H') (k : ∀ o, H a = .some o → H' a = .some o) : CellAt K L' H' a c := by
  cases c with
  | lst ds => obtain ⟨vs, e, r⟩ := h; exact ⟨vs, k _ e, r.mv m⟩
  | dK ds => obtain ⟨vs, e, e2, r⟩ := h; exact ⟨vs, k _ e, e2, r.mv m⟩
  | dT ds => obtain ⟨vs, e, e2, r⟩ := h; exact ⟨vs, k _ e, e2, r.mv m⟩
  | _ => obtain ⟨o, e⟩ := h; exact ⟨o, k _ e⟩
structure SR (K : PySem.W.Frag) (M L : List Addr) (H : Hp) (st : Sto) : Prop where
  nd : L.Nodup
  len : L.length = st.length
  at_ : ∀ (n : Nat) (a : Addr) (c : D), L[n]? = some a → st[n]? = some c → CellAt K (M ++ L) H a c
  hid : ∀ a ∈ M, ∃ o, H a = some o
theorem SR.thr {K : PySem.W.Frag} {M L : List Addr} {H : Hp} {st : Sto} (s : SR K M L H st) {a : Addr} (h : a ∈ M ++ L) : ∃ o, H a = .some o := by
  rcases List.mem_append.mp h with h | h
  · exact s.hid a h
  obtain ⟨n, hn⟩ := List.mem_iff_getElem?.mp h
  obtain ⟨hl, _⟩ := List.getElem?_eq_some_iff.mp hn
  have hl2 : n < st.length := by rw [← s.len]; exact hl
  exact (s.at_ n a (st[n]'hl2) hn (List.getElem?_eq_getElem hl2)).thr
theorem SR.fresh {K : PySem.W.Frag} {M L : List Addr} {H : Hp} {st : Sto} (s : SR K M L H st) {p : Addr} (h : H p = none) : p ∉ M ++ L := fun m => by
  obtain ⟨o, e⟩ := s.thr m
  rw [h] at e; cases e
theorem SR.ext {K : PySem.W.Frag} {M L : List Addr} {H H' : Hp} {st : Sto} (s : SR K M L H st) (e : Ext H H') : SR K M L H' st :=
  ⟨s.nd, s.len, fun n a c h1 h2 => (s.at_ n a c h1 h2).mv ((e.fr (L := M ++ L)).mv) fun o => e a o, fun a h => let ⟨o, q⟩ := s.hid a h; ⟨o, e a o q⟩⟩

/-- what an expression gives: a tree, a place of the store, a new thing that nobody else holds -/
inductive R where
  | d (x : D) | loc (n : Nat) | fr (x : D)
abbrev Env := List (Option R)
def live : D → Bool
  | .lst _ => true
  | .dK _ => true
  | .dT _ => true
  | _ => false
def cellV (o : Option D) : Option D := match o with
  | some (.lst xs) => some (.lst xs)
  | some (.dK xs) => some (.dK xs)
  | some (.dT xs) => some (.dT xs)
  | _ => none
def val (st : Sto) : R → Option D
  | .d x => some x
  | .fr x => some x
  | .loc n => cellV st[n]?
/-- what is given, H0 the heap ahead, st the store behind -/
def RV (K : PySem.W.Frag) (M L : List Addr) (H0 H : Hp) (st : Sto) (v : V) : R → Prop
  | .d x => VD K (M ++ L) H v x
  | .loc n => ∃ a, L[n]? = some a ∧ v = .ref a
  | .fr x => ∃ p, v = .ref p ∧ H0 p = none ∧ p ∉ M ∧ live x = true ∧ SR K M (L ++ [p]) H (st ++ [x])
/-- what an operator gives -/
def RO (K : PySem.W.Frag) (L : List Addr) (H0 H : Hp) (v : V) : R → Prop
  | .d x => VD K L H v x
  | .loc _ => False
  | .fr x => ∃ p, v = .ref p ∧ H0 p = none ∧ live x = true ∧ CellAt K (L ++ [p]) H p x
/-- what a name holds -/
def RE (K : PySem.W.Frag) (M L : List Addr) (H : Hp) (v : V) : R → Prop
  | .d x => VD K (M ++ L) H v x
  | .loc n => ∃ a, L[n]? = some a ∧ v = .ref a
  | .fr _ => False
structure ER (K : PySem.W.Frag) (M L : List Addr) (H : Hp) (σ : L2.St) (env : Env) : Prop where
  len : env.length = σ.length
  at_ : ∀ (i : Nat) (r : R), env[i]? = some (some r) → ∃ v, σ[i]? = some (some v) ∧ RE K M L H v r
/-- a value at this moment -/
def VC (K : PySem.W.Frag) (L : List Addr) (H : Hp) (v : V) : D → Prop
  | .non => v = .non
  | .bl b => v = .bl b
  | .int i => v = .int i
  | .str x => v = .str x
  | .tup ds => ∃ a vs, v = .ref a ∧ a ∉ L ∧ H a = some (.tup vs) ∧ VDs K L H vs ds
  | .frt ds => ∃ a vs, v = .ref a ∧ TupY K L H a vs ∧ VDs K L H vs ds
  | .lst ds => ∃ a vs, v = .ref a ∧ H a = some (.lst vs) ∧ VDs K L H vs ds
  | .frl ds => ∃ a vs, v = .ref a ∧ LstY K L H a vs ∧ VDs K L H vs ds
  | .dK ds => ∃ a kvs, v = .ref a ∧ Rd H a (.dK kvs) ∧ kvs.map (·.1) = ds.map (·.1) ∧ VDs K L H (kvs.map (·.2)) (ds.map (·.2))
  | .dT ds => ∃ a kvs, v = .ref a ∧ Rd H a (.dT kvs) ∧ kvs.map (·.1) = ds.map (·.1) ∧ VDs K L H (kvs.map (·.2)) (ds.map (·.2))
section
variable {K : PySem.W.Frag} {M L L' : List Addr} {H H0 H' H2 : Hp} {v : V} {d : D} {r : R} {st st' st2 : Sto} {σ : L2.St} {env : Env}
theorem VD.cur (h : VD K L H v d) : VC K L H v d := by
  cases h with
  | non => rfl
  | bl b => rfl
  | int b => rfl
  | str b => rfl
  | tup h1 h hs => exact ⟨_, _, rfl, h1, h, hs⟩
  | frt h hs => exact ⟨_, _, rfl, h, hs⟩
  | lst h1 h hs => exact ⟨_, _, rfl, h, hs⟩
  | frl h hs => exact ⟨_, _, rfl, h, hs⟩
  | dK h1 h2 e hs => exact ⟨_, _, rfl, h2, e, hs⟩
  | dT h1 h2 e hs => exact ⟨_, _, rfl, h2, e, hs⟩
theorem CellAt.cur {a : Addr} (h : CellAt K L H a d) (hl : live d = true) : VC K L H (.ref a) d := by
  cases d with
  | lst ds => obtain ⟨vs, e, r⟩ := h; exact ⟨a, vs, rfl, e, r⟩
  | dK ds => obtain ⟨vs, e, e2, r⟩ := h; exact ⟨a, vs, rfl, .inl e, e2, r⟩
  | dT ds => obtain ⟨vs, e, e2, r⟩ := h; exact ⟨a, vs, rfl, .inl e, e2, r⟩
  | _ => cases hl
theorem CellAt.tree {a : Addr} (h : CellAt K L H a d) (hl : live d = true) (n : a ∉ L) : VD K L H (.ref a) d := by
  cases d with
  | lst ds => obtain ⟨vs, e, r⟩ := h; exact .lst n e r
  | dK ds => obtain ⟨vs, e, e2, r⟩ := h; exact .dK n (.inl e) e2 r
  | dT ds => obtain ⟨vs, e, e2, r⟩ := h; exact .dT n (.inl e) e2 r
  | _ => cases hl
theorem cellV_some {o : Option D} (h : cellV o = some d) : o = some d ∧ live d = true := by
  unfold cellV at h
  split at h <;> first | (cases h; exact ⟨rfl, rfl⟩) | cases h
theorem SR.snoc {p : Addr} {x : D} (s : SR K M (L ++ [p]) H (st ++ [x])) : SR K M L H st ∧ p ∉ L ∧ CellAt K (M ++ (L ++ [p])) H p x := by
  have nd := List.nodup_append.mp s.nd
  have hl : L.length = st.length := by
    have := s.len
    simpa using this
  have np : p ∉ L := fun m => nd.2.2 p m p (List.mem_singleton.mpr rfl) rfl
  refine ⟨⟨nd.1, hl, fun n a c h1 h2 => ?_, s.hid⟩, np, s.at_ L.length p x (by simp) (by rw [hl]; simp)⟩
  have h3 := (List.getElem?_eq_some_iff.mp h1).1
  have h4 := (List.getElem?_eq_some_iff.mp h2).1
  refine (s.at_ n a c (by rw [List.getElem?_append_left h3]; exact h1) (by rw [List.getElem?_append_left h4]; exact h2)).mv (mv_sub fun a m => ?_) fun o e => e
  rw [← List.append_assoc]
  exact List.mem_append_left _ m
theorem RE.cur (h : RE K M L H v r) (s : SR K M L H st) (e : val st r = some d) : VC K (M ++ L) H v d := by
  cases r with
  | d x => cases e; exact VD.cur h
  | loc n =>
    obtain ⟨a, h1, rfl⟩ := h
    obtain ⟨e1, hl⟩ := cellV_some e
    exact (s.at_ n a d h1 e1).cur hl
  | fr x => exact h.elim
theorem RE.fr (h : RE K M L H v r) (f : Fr L H H') : RE K M L H' v r := by
  cases r with
  | d x => exact VD.mv f.mvM h
  | loc n => exact h
  | fr x => exact h
theorem ER.fr (h : ER K M L H σ env) (f : Fr L H H') : ER K M L H' σ env :=
  ⟨h.len, fun i r e => let ⟨v, e1, q⟩ := h.at_ i r e; ⟨v, e1, q.fr f⟩⟩
/-- back: what was new behind is new ahead -/
theorem Fr.back (f : Fr L H H') (s : SR K M L H st) (s' : SR K M L H' st') {p : Addr} (h : H' p = none) : H p = none := by
  cases e : H p with
  | none => rfl
  | some o =>
    by_cases m : p ∈ L
    · exact absurd (List.mem_append_right M m) (s'.fresh h)
    · rw [f p o m e] at h; cases h
theorem RV.back (h : RV K M L H H' st v r) (f : Fr L H0 H) (s0 : SR K M L H0 st') (s : SR K M L H st2) : RV K M L H0 H' st v r := by
  cases r with
  | d x => exact h
  | loc n => exact h
  | fr x =>
    obtain ⟨p, rfl, h0, hm, q⟩ := h
    exact ⟨p, rfl, f.back s0 s h0, hm, q⟩
theorem RO.rv (h : RO K (M ++ L) H H' v r) (ee : Ext H H') (s : SR K M L H st) : RV K M L H H' st v r := by
  cases r with
  | d x => exact h
  | loc n => exact h.elim
  | fr x =>
    obtain ⟨p, rfl, h0, hl, c⟩ := h
    have hn := s.fresh h0
    refine ⟨p, rfl, h0, fun m => hn (List.mem_append_left _ m), hl, ⟨?_, by simp [s.len], fun n a c' h1 h2 => ?_, (s.ext ee).hid⟩⟩
    · refine List.nodup_append.mpr ⟨s.nd, by simp, fun a ha b hb => ?_⟩
      rw [List.mem_singleton.mp hb]
      exact fun e => hn (List.mem_append_right _ (e ▸ ha))
    · by_cases hn : n < L.length
      · rw [List.getElem?_append_left hn] at h1
        rw [List.getElem?_append_left (by rw [← s.len]; exact hn)] at h2
        refine (s.at_ n a c' h1 h2).mv (mv_of (L := M ++ L) ee.fr (fun _ m => m) fun b m => ?_) fun o e => ee _ _ e
        rw [← List.append_assoc] at m
        rcases List.mem_append.mp m with m | m
        · exact .inl m
        · rw [List.mem_singleton.mp m]; exact .inr h0
      · have hl2 := (List.getElem?_eq_some_iff.mp h1).1
        simp only [List.length_append, List.length_singleton] at hl2
        have e : n = L.length := by omega
        subst e
        simp at h1
        subst h1
        rw [s.len] at h2
        simp at h2
        subst h2
        rw [← List.append_assoc]
        exact c
/-- as a tree -/
def R.t : R → R
  | .fr x => .d x
  | r => r
theorem RV.t (h : RV K M L H0 H st v r) : RE K M L H v r.t := by
  cases r with
  | d x => exact h
  | loc n => exact h
  | fr x =>
    obtain ⟨p, rfl, h0, hm, hl, q⟩ := h
    obtain ⟨s, np, c⟩ := q.snoc
    refine CellAt.tree (c.mv (mv_sub fun a m => ?_) fun o e => e) hl fun m => (List.mem_append.mp m).elim hm np
    rw [← List.append_assoc]
    exact List.mem_append_left _ m
theorem val_t : val st r.t = val st r := by cases r <;> rfl
theorem VDs.length : ∀ {vs : List V} {ds : List D}, VDs K L H vs ds → vs.length = ds.length
  | _, _, .nil => rfl
  | _, _, .cons _ hs => by simp [VDs.length hs]
theorem VDs.get : ∀ {vs : List V} {ds : List D} {i : Nat} {x : D}, VDs K L H vs ds → ds[i]? = some x → ∃ v, vs[i]? = some v ∧ VD K L H v x
  | _, _, _, _, .nil, e => by simp at e
  | _, _, 0, _, .cons h _, e => by simp at e; subst e; exact ⟨_, rfl, h⟩
  | _, _, i + 1, x, .cons _ hs, e => by
    obtain ⟨v, e1, q⟩ := VDs.get (i := i) (x := x) hs (by simpa using e)
    exact ⟨v, by simpa using e1, q⟩
theorem VDs.getV : ∀ {vs : List V} {ds : List D} {i : Nat} {v : V}, VDs K L H vs ds → vs[i]? = some v → ∃ x, ds[i]? = some x ∧ VD K L H v x
  | _, _, _, _, .nil, e => by simp at e
  | _, _, 0, _, .cons h _, e => by simp at e; subst e; exact ⟨_, rfl, h⟩
  | _, _, i + 1, x, .cons _ hs, e => by
    obtain ⟨v, e1, q⟩ := VDs.getV (i := i) (v := x) hs (by simpa using e)
    exact ⟨v, by simpa using e1, q⟩
theorem VDs.append : ∀ {vs ws : List V} {ds es : List D}, VDs K L H vs ds → VDs K L H ws es → VDs K L H (vs ++ ws) (ds ++ es)
  | _, _, _, _, .nil, h => h
  | _, _, _, _, .cons h hs, h2 => .cons h (VDs.append hs h2)
theorem VDs.take : ∀ {vs : List V} {ds : List D} (n : Nat), VDs K L H vs ds → VDs K L H (vs.take n) (ds.take n)
  | _, _, 0, _ => .nil
  | _, _, _ + 1, .nil => .nil
  | _, _, n + 1, .cons h hs => .cons h (VDs.take n hs)
theorem VDs.drop : ∀ {vs : List V} {ds : List D} (n : Nat), VDs K L H vs ds → VDs K L H (vs.drop n) (ds.drop n)
  | _, _, 0, h => h
  | _, _, _ + 1, .nil => .nil
  | _, _, n + 1, .cons _ hs => VDs.drop n hs
theorem VDs.set {v : V} {x : D} (h : VD K L H v x) : ∀ {vs : List V} {ds : List D} (n : Nat), VDs K L H vs ds → VDs K L H (vs.set n v) (ds.set n x)
  | _, _, _, .nil => .nil
  | _, _, 0, .cons _ hs => .cons h hs
  | _, _, n + 1, .cons h2 hs => .cons h2 (VDs.set h n hs)
theorem VDs.eraseIdx : ∀ {vs : List V} {ds : List D} (n : Nat), VDs K L H vs ds → VDs K L H (vs.eraseIdx n) (ds.eraseIdx n)
  | _, _, _, .nil => .nil
  | _, _, 0, .cons _ hs => hs
  | _, _, n + 1, .cons h2 hs => .cons h2 (VDs.eraseIdx n hs)
theorem VDs.reverse {vs : List V} {ds : List D} (h : VDs K L H vs ds) : VDs K L H vs.reverse ds.reverse := by
  induction vs generalizing ds with
  | nil => cases h; exact .nil
  | cons v vs ih =>
    cases h with
    | cons h hs =>
      rw [List.reverse_cons, List.reverse_cons]
      exact (ih hs).append (.cons h .nil)
theorem VDs.dropLast {vs : List V} {ds : List D} (h : VDs K L H vs ds) : VDs K L H vs.dropLast ds.dropLast := by
  rw [List.dropLast_eq_take, List.dropLast_eq_take, h.length]
  exact h.take _
theorem VDs.rep {vs : List V} {ds : List D} (h : VDs K L H vs ds) : ∀ n : Nat, VDs K L H (List.replicate n vs).flatten (List.replicate n ds).flatten
  | 0 => .nil
  | n + 1 => by
    rw [List.replicate_succ, List.replicate_succ, List.flatten_cons, List.flatten_cons]
    exact h.append (VDs.rep h n)
theorem VDs.ints : ∀ {vs : List V} {ns : List Int}, VDs K L H vs (ns.map D.int) → vs = ns.map V.int
  | _, [], .nil => rfl
  | _, n :: ns, .cons h hs => by
    cases h
    rw [List.map_cons, VDs.ints hs]
theorem VDs.ofInts : ∀ (ns : List Int), VDs K L H (ns.map V.int) (ns.map D.int)
  | [] => .nil
  | n :: ns => .cons (.int n) (VDs.ofInts ns)
theorem VDs.bls : ∀ {vs : List V} {ns : List Bool}, VDs K L H vs (ns.map D.bl) → vs = ns.map V.bl
  | _, [], .nil => rfl
  | _, n :: ns, .cons h hs => by
    cases h
    rw [List.map_cons, VDs.bls hs]
theorem VDs.strs : ∀ {vs : List V} {ns : List Str}, VDs K L H vs (ns.map D.str) → vs = ns.map V.str
  | _, [], .nil => rfl
  | _, n :: ns, .cons h hs => by
    cases h
    rw [List.map_cons, VDs.strs hs]
end
end DL

set_option Elab.async false
set_option linter.all false
set_option maxRecDepth 100000
set_option maxHeartbeats 4000000
namespace DL
open PySem PySem.Spec PyProof.Rows L2

abbrev GE := Env → Sto → Option (R × Sto)
abbrev GT := Env → Sto → Option (Bool × Sto)
abbrev GA := Env → Sto → Option (List R × Sto)
/-- the readings that plain functions make -/
def teOf (K : PySem.W.Frag) (g : GE) : TE := fun σ H Q => ∃ M L env st r st', ER K M L H σ env ∧ SR K M L H st ∧ g env st = some (r, st') ∧ ∀ v H', Fr L H H' → SR K M L H' st' → RV K M L H H' st' v r → Q v H'
def ttOf (K : PySem.W.Frag) (g : GT) : TT := fun σ H Q => ∃ M L env st b st', ER K M L H σ env ∧ SR K M L H st ∧ g env st = some (b, st') ∧ ∀ H', Fr L H H' → SR K M L H' st' → Q b H'
def taOf (K : PySem.W.Frag) (g : GA) : TA := fun σ H Q => ∃ M L env st rs st', ER K M L H σ env ∧ SR K M L H st ∧ g env st = some (rs, st') ∧ ∀ vs H', Fr L H H' → SR K M L H' st' → Paired (RE K M L H') vs rs → Q vs H'
def DE (X : Cx) (e : Expr) (g : GE) : Prop := PE X e (teOf X.K g)
def DT (X : Cx) (e : Expr) (g : GT) : Prop := PT X e (ttOf X.K g)
def DW (X : Cx) (e : Expr) (g : GT) : Prop := PW X e (ttOf X.K g)
def DA (X : Cx) (es : List Expr) (g : GA) : Prop := PA X es (taOf X.K g)

section
variable {X : Cx} {e : Expr} {es : List Expr} {st : Stmt} {sts : List Stmt}
theorem pe_imp {t t' : TE} (h : PE X e t) (w : ∀ σ H Q, t' σ H Q → t σ H Q) : PE X e t' := ⟨fun pins s σ H Q I q => h.run pins s σ H Q I (w σ H Q q)⟩
theorem pt_imp {t t' : TT} (h : PT X e t) (w : ∀ σ H Q, t' σ H Q → t σ H Q) : PT X e t' := ⟨fun pins s σ H Q I q => h.run pins s σ H Q I (w σ H Q q)⟩
theorem pw_imp {t t' : TT} (h : PW X e t) (w : ∀ σ H Q, t' σ H Q → t σ H Q) : PW X e t' := ⟨fun wh pins s σ H Q I q => h.run wh pins s σ H Q I (w σ H Q q)⟩
theorem pa_imp {t t' : TA} (h : PA X es t) (w : ∀ σ H Q, t' σ H Q → t σ H Q) : PA X es t' := ⟨fun pos pins s σ H Q I q => h.run pos pins s σ H Q I (w σ H Q q)⟩
theorem ps_imp {t t' : TS} (h : PS X st t) (w : ∀ D σ H, t' D σ H → t D σ H) : PS X st t' := ⟨fun pins s σ H D I q => h.run pins s σ H D I (w D σ H q)⟩
theorem pss_imp {t t' : TS} (h : PSs X sts t) (w : ∀ D σ H, t' D σ H → t D σ H) : PSs X sts t' := ⟨fun pins s σ H D I q => h.run pins s σ H D I (w D σ H q)⟩
end

/-! ### names, constants -/
def gVar (i : Nat) : GE := fun env st => match env[i]? with
  | some (some r) => some (r, st)
  | _ => none
def gC (x : D) : GE := fun _ st => some (.d x, st)
section
variable {X : Cx} {K : PySem.W.Frag}
theorem RE.rv {L : List Addr} {H0 H : Hp} {st : Sto} {v : V} {r : R} (h : RE K M L H v r) : RV K M L H0 H st v r := by
  cases r with
  | d x => exact h
  | loc n => exact h
  | fr x => exact h.elim
theorem de_var {i : Nat} {x : Str} {pos : Pos} (hN : X.N[i]? = some x) (hv : Vis X.env.scope x) (hd : (x == ("__debug__" : Str)) = false) (hcd : (x == ("__classdict__" : Str)) = false) : DE X (.Name x pos) (gVar i) := by
  refine pe_imp (pe_var hN hv hd hcd) fun σ H Q h => ?_
  obtain ⟨M, L, env, st, r, st', er, sr, hg, q⟩ := h
  unfold gVar at hg
  split at hg
  · rename_i r' e
    cases hg
    obtain ⟨v, e1, re⟩ := er.at_ _ _ e
    exact ⟨v, e1, q v H (Fr.refl _ _) sr re.rv⟩
  · cases hg
theorem de_c {e : Expr} {v : V} {d : D} (h : PE X e (tC v)) (hv : ∀ L H, VD X.K L H v d) : DE X e (gC d) := by
  refine pe_imp h fun σ H Q h => ?_
  obtain ⟨M, L, env, st, r, st', er, sr, hg, q⟩ := h
  cases hg
  exact q v H (Fr.refl _ _) sr (hv _ H)
theorem de_int {i : Int} {j pos} : DE X (.Constant (.int i) j pos) (gC (.int i)) := de_c pe_int fun _ _ => .int i
theorem de_str {x : Str} {j pos} : DE X (.Constant (.str x) j pos) (gC (.str x)) := de_c pe_str fun _ _ => .str x
theorem de_bl {x : Bool} {j pos} : DE X (.Constant (.bool x) j pos) (gC (.bl x)) := de_c pe_bl fun _ _ => .bl x
theorem de_non {j pos} : DE X (.Constant .none j pos) (gC .non) := de_c pe_non fun _ _ => .non
theorem de_gint {x : Str} {i : Int} {pos : Pos} (hg : Gl X x) (hm : ∃ t, X.mg x = some (.int i t)) (hd : (x == ("__debug__" : Str)) = false := by decide) : DE X (.Name x pos) (gC (.int i)) := by
  obtain ⟨t, hm⟩ := hm
  exact de_c (pe_glob (v := .int i) hg hm ⟨t, rfl⟩ hd) fun _ _ => .int i
theorem de_gstr {x z : Str} {pos : Pos} (hg : Gl X x) (hm : ∃ t, X.mg x = some (.str z t)) (hd : (x == ("__debug__" : Str)) = false := by decide) : DE X (.Name x pos) (gC (.str z)) := by
  obtain ⟨t, hm⟩ := hm
  exact de_c (pe_glob (v := .str z) hg hm ⟨t, rfl⟩ hd) fun _ _ => .str z
end

/-! ### operators on values -/
/-- what an operator gives, of two values at this moment -/
def OpS (K : PySem.W.Frag) (r : R2) (op : D → D → Option R) : Prop :=
  ∀ (L : List Addr) (H : Hp) (x y : V) (dx dy : D) (res : R) (Q : VK), VC K L H x dx → VC K L H y dy → (∀ a ∈ L, ∃ o, H a = some o) → op dx dy = some res →
    (∀ v H', Ext H H' → RO K L H H' v res → Q v H') → r x y H Q
def UnS (K : PySem.W.Frag) (r : V → Hp → VK → Prop) (op : D → Option R) : Prop :=
  ∀ (L : List Addr) (H : Hp) (x : V) (dx : D) (res : R) (Q : VK), VC K L H x dx → (∀ a ∈ L, ∃ o, H a = some o) → op dx = some res →
    (∀ v H', Ext H H' → RO K L H H' v res → Q v H') → r x H Q
theorem OpS.or {K : PySem.W.Frag} {r r' : R2} {op op' : D → D → Option R} (h : OpS K r op) (h' : OpS K r' op') : OpS K (fun x y H Q => r x y H Q ∨ r' x y H Q) (fun a b => (op a b).orElse fun _ => op' a b) := by
  intro L H x y dx dy res Q hx hy hL ho q
  dsimp only at ho
  cases e : op dx dy with
  | some z =>
    rw [e] at ho
    cases ho
    exact .inl (h L H x y dx dy _ Q hx hy hL e q)
  | none =>
    rw [e] at ho
    exact .inr (h' L H x y dx dy _ Q hx hy hL ho q)
theorem OpS.of {K : PySem.W.Frag} {r : R2} {op op' : D → D → Option R} (h : OpS K r op) (e : ∀ a b z, op' a b = some z → op a b = some z) : OpS K r op' :=
  fun L H x y dx dy res Q hx hy hL ho q => h L H x y dx dy res Q hx hy hL (e _ _ _ ho) q
def gOp (op : D → D → Option R) (ga gb : GE) : GE := fun env st =>
  match ga env st with
  | none => none
  | some (a, st1) => match gb env st1 with
    | none => none
    | some (b, st2) => match val st2 a, val st2 b with
      | some x, some y => (op x y).map fun r => (r, st2)
      | _, _ => none
def gUn (op : D → Option R) (ga : GE) : GE := fun env st =>
  match ga env st with
  | none => none
  | some (a, st1) => match val st1 a with
    | some x => (op x).map fun r => (r, st1)
    | none => none
section
variable {X : Cx} {K : PySem.W.Frag} {a b : Expr} {ga gb : GE} {pos : Pos}
theorem op_of {r : R2} {op : D → D → Option R} (hs : OpS K r op) : ∀ σ H Q, teOf K (gOp op ga gb) σ H Q → tOp r (teOf K ga) (teOf K gb) σ H Q := by
  intro σ H Q h
  obtain ⟨M, L, env, st, z, st', er, sr, hg, q⟩ := h
  unfold gOp at hg
  split at hg
  · cases hg
  · rename_i ra st1 e1
    split at hg
    · cases hg
    · rename_i rb st2 e2
      split at hg
      · rename_i x y ex ey
        cases eo : op x y with
        | none => rw [eo] at hg; cases hg
        | some res =>
          rw [eo] at hg
          cases hg
          refine ⟨M, L, env, st, ra, st1, er, sr, e1, fun v1 H1 f1 s1 r1 => ?_⟩
          refine ⟨M, L, env, st1, rb, _, er.fr f1, s1, e2, fun v2 H2 f2 s2 r2 => ?_⟩
          refine hs (M ++ L) H2 v1 v2 x y z Q ((r1.t.fr f2).cur s2 (val_t.trans ex)) (r2.t.cur s2 (val_t.trans ey)) (fun a ha => s2.thr ha) eo fun v H' ee rr => ?_
          have f3 := (f1.trans f2).trans ee.fr
          exact q v H' f3 (s2.ext ee) ((rr.rv ee s2).back (f1.trans f2) sr s2)
      · cases hg
theorem un_of {r : V → Hp → VK → Prop} {op : D → Option R} (hs : UnS K r op) : ∀ σ H Q, teOf K (gUn op ga) σ H Q → tUn r (teOf K ga) σ H Q := by
  intro σ H Q h
  obtain ⟨M, L, env, st, z, st', er, sr, hg, q⟩ := h
  unfold gUn at hg
  split at hg
  · cases hg
  · rename_i ra st1 e1
    split at hg
    · rename_i x ex
      cases eo : op x with
      | none => rw [eo] at hg; cases hg
      | some res =>
        rw [eo] at hg
        cases hg
        refine ⟨M, L, env, st, ra, _, er, sr, e1, fun v1 H1 f1 s1 r1 => ?_⟩
        refine hs (M ++ L) H1 v1 x z Q (r1.t.cur s1 (val_t.trans ex)) (fun a ha => s1.thr ha) eo fun v H' ee rr => ?_
        exact q v H' (f1.trans ee.fr) (s1.ext ee) ((rr.rv ee s1).back f1 sr s1)
    · cases hg
theorem de_op {op : Operator} {r : R2} {od : D → D → Option R} (ho : OpR X (binaryOp op) r) (hs : OpS X.K r od) (ha : DE X a ga) (hb : DE X b gb) : DE X (.BinOp a op b pos) (gOp od ga gb) :=
  pe_imp (pe_op ho ha hb) (op_of hs)
theorem de_un {op : UnaryOp} {r : V → Hp → VK → Prop} {od : D → Option R} (ho : UnR X (unaryOp op) r) (hs : UnS X.K r od) (ha : DE X a ga) : DE X (.UnaryOp op a pos) (gUn od ga) :=
  pe_imp (pe_un ho ha) (un_of hs)
theorem de_cmp {op : CmpOp} {r : R2} {od : D → D → Option R} (ho : OpR X (compareOp op) r) (hs : OpS X.K r od) (ha : DE X a ga) (hb : DE X b gb) (hm : behindInMarks op b = false) : DE X (.Compare a [op] [b] pos) (gOp od ga gb) :=
  pe_imp (pe_cmpR ho ha hb hm) (op_of hs)
/-- an expression that gives a truth value, as a test -/
def gTest (g : GE) : GT := fun env st => match g env st with
  | some (.d (.bl b), st1) => some (b, st1)
  | _ => none
theorem test_of {g : GE} {t : TE} (w : ∀ σ H Q, teOf K g σ H Q → t σ H Q) : ∀ σ H Q, ttOf K (gTest g) σ H Q → tTest t σ H Q := by
  intro σ H Q h
  obtain ⟨M, L, env, st, z, st', er, sr, hg, q⟩ := h
  unfold gTest at hg
  split at hg
  · rename_i b st1 e
    cases hg
    refine w σ H _ ⟨M, L, env, st, _, _, er, sr, e, fun v H' f s r => ?_⟩
    cases (show VD K (M ++ L) H' v (.bl _) from r)
    exact ⟨_, rfl, q H' f s⟩
  · cases hg
theorem dt_val {e : Expr} {g : GE} (h : DE X e g) (he : ∀ whole, isTrue e X.env whole = (do let v ← whole; standAt e.pos; holding [v] (truthy v)) := by intro _; rfl) : DT X e (gTest g) :=
  pt_imp (pt_val h he) (test_of fun _ _ _ h => h)
theorem dt_cmp {op : CmpOp} {r : R2} {od : D → D → Option R} (ho : OpR X (compareOp op) r) (hs : OpS X.K r od) (ha : DE X a ga) (hb : DE X b gb) (hm : behindInMarks op b = false) : DT X (.Compare a [op] [b] pos) (gTest (gOp od ga gb)) :=
  pt_imp (pt_cmpR ho ha hb hm) (test_of (op_of hs))
/-- a op1 b op2 c -/
def gChain (op op' : D → D → Option R) (ga gb gc : GE) : GE := fun env st =>
  match ga env st with
  | none => none
  | some (a, st1) => match gb env st1 with
    | none => none
    | some (b, st2) => match val st2 a, val st2 b with
      | some x, some y => match op x y with
        | some (.d (.bl true)) => (match gc env st2 with
          | none => none
          | some (c, st3) => match val st3 b, val st3 c with
            | some y', some z => (op' y' z).map fun r => (r, st3)
            | _, _ => none)
        | some (.d (.bl false)) => some (.d (.bl false), st2)
        | _ => none
      | _, _ => none
end
section
variable {X : Cx} {K : PySem.W.Frag} {a b c : Expr} {ga gb gc : GE} {pos : Pos}
theorem chain_of {r r' : R2} {op op' : D → D → Option R} (hs : OpS K r op) (hs' : OpS K r' op') : ∀ σ H Q, teOf K (gChain op op' ga gb gc) σ H Q → tChain r r' (teOf K ga) (teOf K gb) (teOf K gc) σ H Q := by
  intro σ H Q h
  obtain ⟨M, L, env, st, z, st', er, sr, hg, q⟩ := h
  unfold gChain at hg
  split at hg
  · cases hg
  · rename_i ra st1 e1
    split at hg
    · cases hg
    · rename_i rb st2 e2
      split at hg
      · rename_i x y ex ey
        refine ⟨M, L, env, st, ra, st1, er, sr, e1, fun v1 H1 f1 s1 r1 => ?_⟩
        refine ⟨M, L, env, st1, rb, _, er.fr f1, s1, e2, fun v2 H2 f2 s2 r2 => ?_⟩
        split at hg
        · rename_i eo
          refine hs (M ++ L) H2 v1 v2 x y _ _ ((r1.t.fr f2).cur s2 (val_t.trans ex)) (r2.t.cur s2 (val_t.trans ey)) (fun a ha => s2.thr ha) eo fun v H3 ee rr => ?_
          cases (show VD K (M ++ L) H3 v (.bl true) from rr)
          refine ⟨true, rfl, ?_⟩
          show (if true = true then _ else _)
          try dsimp only
          rw [if_pos rfl]
          have f12 := f1.trans f2
          have f123 := f12.trans ee.fr
          have s3 := s2.ext ee
          split at hg
          · cases hg
          · rename_i rc st3 e3
            split at hg
            · rename_i y' w ey' ew
              cases eo' : op' y' w with
              | none => rw [eo'] at hg; cases hg
              | some res =>
                rw [eo'] at hg
                cases hg
                refine ⟨M, L, env, st2, rc, _, er.fr f123, s3, e3, fun v4 H4 f4 s4 r4 => ?_⟩
                refine hs' (M ++ L) H4 v2 v4 y' w z Q (((r2.t.fr ee.fr).fr f4).cur s4 (val_t.trans ey')) (r4.t.cur s4 (val_t.trans ew)) (fun a ha => s4.thr ha) eo' fun v H' e5 rr => ?_
                exact q v H' ((f123.trans f4).trans e5.fr) (s4.ext e5) ((rr.rv e5 s4).back (f123.trans f4) sr s4)
            · cases hg
        · rename_i eo
          cases hg
          refine hs (M ++ L) H2 v1 v2 x y _ _ ((r1.t.fr f2).cur s2 (val_t.trans ex)) (r2.t.cur s2 (val_t.trans ey)) (fun a ha => s2.thr ha) eo fun v H3 ee rr => ?_
          cases (show VD K (M ++ L) H3 v (.bl false) from rr)
          refine ⟨false, rfl, ?_⟩
          show (if false = true then _ else _)
          try dsimp only
          rw [if_neg Bool.false_ne_true]
          exact q _ H3 ((f1.trans f2).trans ee.fr) (s2.ext ee) (.bl false)
        · cases hg
      · cases hg
theorem de_chain {o1 o2 : CmpOp} {r r' : R2} {od od' : D → D → Option R} (ho : OpR X (compareOp o1) r) (hs : OpS X.K r od) (ho' : OpR X (compareOp o2) r') (hs' : OpS X.K r' od') (ha : DE X a ga) (hb : DE X b gb) (hc : DE X c gc)
    (hm : lastMarks [o1, o2] [b, c] = false := by with_unfolding_all rfl) : DE X (.Compare a [o1, o2] [b, c] pos) (gChain od od' ga gb gc) :=
  pe_imp (pe_chain ho ho' ha hb hc hm) (chain_of hs hs')
theorem dt_chain {o1 o2 : CmpOp} {r r' : R2} {od od' : D → D → Option R} (ho : OpR X (compareOp o1) r) (hs : OpS X.K r od) (ho' : OpR X (compareOp o2) r') (hs' : OpS X.K r' od') (ha : DE X a ga) (hb : DE X b gb) (hc : DE X c gc)
    (hm : lastMarks [o1, o2] [b, c] = false := by with_unfolding_all rfl) : DT X (.Compare a [o1, o2] [b, c] pos) (gTest (gChain od od' ga gb gc)) :=
  pt_imp (pt_chain ho ho' ha hb hc hm) (test_of (chain_of hs hs'))
end

/-! ### and, or, not, a if t else b -/
def gAnd (t u : GT) : GT := fun env st => match t env st with
  | some (true, st1) => u env st1
  | some (false, st1) => some (false, st1)
  | none => none
def gOr (t u : GT) : GT := fun env st => match t env st with
  | some (true, st1) => some (true, st1)
  | some (false, st1) => u env st1
  | none => none
def gNot (t : GT) : GT := fun env st => match t env st with
  | some (b, st1) => some (!b, st1)
  | none => none
/-- as values -/
def gVT (t : GT) : GE := fun env st => match t env st with
  | some (b, st1) => some (.d (.bl b), st1)
  | none => none
def gIfE (t : GT) (ga gb : GE) : GE := fun env st => match t env st with
  | some (true, st1) => ga env st1
  | some (false, st1) => gb env st1
  | none => none
section
variable {X : Cx} {K : PySem.W.Frag} {a b c : Expr} {rest : List Expr} {ga gb : GE} {ta tb : GT} {pos : Pos}
theorem and_of : ∀ σ H Q, ttOf K (gAnd ta tb) σ H Q → tAnd (ttOf K ta) (ttOf K tb) σ H Q := by
  intro σ H Q h
  obtain ⟨M, L, env, st, z, st', er, sr, hg, q⟩ := h
  unfold gAnd at hg
  split at hg
  · rename_i st1 e
    refine ⟨M, L, env, st, _, _, er, sr, e, fun H1 f1 s1 => ?_⟩
    try dsimp only
    rw [if_pos rfl]
    exact ⟨M, L, env, st1, _, _, er.fr f1, s1, hg, fun H2 f2 s2 => q H2 (f1.trans f2) s2⟩
  · rename_i st1 e
    cases hg
    refine ⟨M, L, env, st, _, _, er, sr, e, fun H1 f1 s1 => ?_⟩
    try dsimp only
    rw [if_neg Bool.false_ne_true]
    exact q H1 f1 s1
  · cases hg
theorem or_of : ∀ σ H Q, ttOf K (gOr ta tb) σ H Q → tOr (ttOf K ta) (ttOf K tb) σ H Q := by
  intro σ H Q h
  obtain ⟨M, L, env, st, z, st', er, sr, hg, q⟩ := h
  unfold gOr at hg
  split at hg
  · rename_i st1 e
    cases hg
    refine ⟨M, L, env, st, _, _, er, sr, e, fun H1 f1 s1 => ?_⟩
    try dsimp only
    rw [if_pos rfl]
    exact q H1 f1 s1
  · rename_i st1 e
    refine ⟨M, L, env, st, _, _, er, sr, e, fun H1 f1 s1 => ?_⟩
    try dsimp only
    rw [if_neg Bool.false_ne_true]
    exact ⟨M, L, env, st1, _, _, er.fr f1, s1, hg, fun H2 f2 s2 => q H2 (f1.trans f2) s2⟩
  · cases hg
theorem not_of' : ∀ σ H Q, ttOf K (gNot ta) σ H Q → tNot (ttOf K ta) σ H Q := by
  intro σ H Q h
  obtain ⟨M, L, env, st, z, st', er, sr, hg, q⟩ := h
  unfold gNot at hg
  split at hg
  · rename_i b st1 e
    cases hg
    exact ⟨M, L, env, st, _, _, er, sr, e, fun H1 f1 s1 => q H1 f1 s1⟩
  · cases hg
theorem dw_and1 (h : DT X a ta) : DW X (.BoolOp .And [a] pos) ta := pw_and1 h
theorem dw_or1 (h : DT X a ta) : DW X (.BoolOp .Or [a] pos) ta := pw_or1 h
theorem dw_and (h : DT X a ta) (h2 : DW X (.BoolOp .And (b :: rest) pos) tb) : DW X (.BoolOp .And (a :: b :: rest) pos) (gAnd ta tb) := pw_imp (pw_and h h2) and_of
theorem dw_or (h : DT X a ta) (h2 : DW X (.BoolOp .Or (b :: rest) pos) tb) : DW X (.BoolOp .Or (a :: b :: rest) pos) (gOr ta tb) := pw_imp (pw_or h h2) or_of
theorem dt_w (h : DW X a ta) : DT X a ta := PW.pt h
theorem dt_not (h : DT X a ta) : DT X (.UnaryOp .Not a pos) (gNot ta) := pt_imp (pt_not h) not_of'
/-- values: an expression whose value is the truth value of g -/
theorem vt_of {g : GT} : ∀ σ H Q, teOf K (gVT g) σ H Q → ttOf K g σ H fun b H1 => Q (.bl b) H1 := by
  intro σ H Q h
  obtain ⟨M, L, env, st, z, st', er, sr, hg, q⟩ := h
  unfold gVT at hg
  split at hg
  · rename_i b st1 e
    cases hg
    exact ⟨M, L, env, st, _, _, er, sr, e, fun H1 f1 s1 => q _ H1 f1 s1 (.bl b)⟩
  · cases hg
theorem de_one {op} (h : DE X a ga) : DE X (.BoolOp op [a] pos) ga := pe_one h
theorem de_and (h : DE X a ga) (h2 : DE X (.BoolOp .And (b :: rest) pos) gb) : DE X (.BoolOp .And (a :: b :: rest) pos) (gIfE (gTest ga) gb (gC (.bl false))) := by
  refine pe_imp (pe_and h h2) fun σ H Q h => ?_
  obtain ⟨M, L, env, st, z, st', er, sr, hg, q⟩ := h
  unfold gIfE gTest at hg
  split at hg
  · rename_i st1 e
    split at e <;> cases e
    rename_i e
    refine ⟨M, L, env, st, _, _, er, sr, e, fun v H1 f1 s1 r1 => ?_⟩
    cases (show VD X.K (M ++ L) H1 v (.bl true) from r1)
    refine ⟨true, rfl, ?_⟩
    try dsimp only
    rw [if_pos rfl]
    exact ⟨M, L, env, st1, _, _, er.fr f1, s1, hg, fun v H2 f2 s2 r2 => q v H2 (f1.trans f2) s2 (r2.back f1 sr s1)⟩
  · rename_i st1 e
    split at e <;> cases e
    rename_i e
    cases hg
    refine ⟨M, L, env, st, _, _, er, sr, e, fun v H1 f1 s1 r1 => ?_⟩
    cases (show VD X.K (M ++ L) H1 v (.bl false) from r1)
    refine ⟨false, rfl, ?_⟩
    try dsimp only
    rw [if_neg Bool.false_ne_true]
    exact q _ H1 f1 s1 (.bl false)
  · cases hg
theorem de_or (h : DE X a ga) (h2 : DE X (.BoolOp .Or (b :: rest) pos) gb) : DE X (.BoolOp .Or (a :: b :: rest) pos) (gIfE (gTest ga) (gC (.bl true)) gb) := by
  refine pe_imp (pe_or h h2) fun σ H Q h => ?_
  obtain ⟨M, L, env, st, z, st', er, sr, hg, q⟩ := h
  unfold gIfE gTest at hg
  split at hg
  · rename_i st1 e
    split at e <;> cases e
    rename_i e
    cases hg
    refine ⟨M, L, env, st, _, _, er, sr, e, fun v H1 f1 s1 r1 => ?_⟩
    cases (show VD X.K (M ++ L) H1 v (.bl true) from r1)
    refine ⟨true, rfl, ?_⟩
    try dsimp only
    rw [if_pos rfl]
    exact q _ H1 f1 s1 (.bl true)
  · rename_i st1 e
    split at e <;> cases e
    rename_i e
    refine ⟨M, L, env, st, _, _, er, sr, e, fun v H1 f1 s1 r1 => ?_⟩
    cases (show VD X.K (M ++ L) H1 v (.bl false) from r1)
    refine ⟨false, rfl, ?_⟩
    try dsimp only
    rw [if_neg Bool.false_ne_true]
    exact ⟨M, L, env, st1, _, _, er.fr f1, s1, hg, fun v H2 f2 s2 r2 => q v H2 (f1.trans f2) s2 (r2.back f1 sr s1)⟩
  · cases hg
theorem de_not (h : DE X a ga) : DE X (.UnaryOp .Not a pos) (gVT (gNot (gTest ga))) := by
  refine pe_imp (pe_not h) fun σ H Q h => ?_
  obtain ⟨M, L, env, st, z, st', er, sr, hg, q⟩ := h
  unfold gVT gNot gTest at hg
  split at hg
  · rename_i b st1 e
    split at e <;> cases e
    rename_i e
    split at e <;> cases e
    rename_i e
    cases hg
    refine ⟨M, L, env, st, _, _, er, sr, e, fun v H1 f1 s1 r1 => ?_⟩
    cases (show VD X.K (M ++ L) H1 v (.bl _) from r1)
    exact ⟨_, rfl, q _ H1 f1 s1 (.bl _)⟩
  · cases hg
theorem de_ifE (hc : DT X c ta) (ha : DE X a ga) (hb : DE X b gb) : DE X (.IfExp c a b pos) (gIfE ta ga gb) := by
  refine pe_imp (pe_ifExp hc ha hb) fun σ H Q h => ?_
  obtain ⟨M, L, env, st, z, st', er, sr, hg, q⟩ := h
  unfold gIfE at hg
  split at hg
  · rename_i st1 e
    refine ⟨M, L, env, st, _, _, er, sr, e, fun H1 f1 s1 => ?_⟩
    try dsimp only
    rw [if_pos rfl]
    exact ⟨M, L, env, st1, _, _, er.fr f1, s1, hg, fun v H2 f2 s2 r2 => q v H2 (f1.trans f2) s2 (r2.back f1 sr s1)⟩
  · rename_i st1 e
    refine ⟨M, L, env, st, _, _, er, sr, e, fun H1 f1 s1 => ?_⟩
    try dsimp only
    rw [if_neg Bool.false_ne_true]
    exact ⟨M, L, env, st1, _, _, er.fr f1, s1, hg, fun v H2 f2 s2 r2 => q v H2 (f1.trans f2) s2 (r2.back f1 sr s1)⟩
  · cases hg
end

/-! ### arguments, displays, calls -/
def gA0 : GA := fun _ st => some ([], st)
def gA1 (ga : GE) (gr : GA) : GA := fun env st => match ga env st with
  | some (r, st1) => (match gr env st1 with
    | some (rs, st2) => some (r.t :: rs, st2)
    | none => none)
  | none => none
theorem res_fr {K : PySem.W.Frag} {L : List Addr} {H H' : Hp} (f : Fr L H H') : ∀ {vs : List V} {rs : List R}, Paired (RE K M L H) vs rs → Paired (RE K M L H') vs rs
  | _, _, .nil => .nil
  | _, _, .cons h hs => .cons (h.fr f) (res_fr f hs)
section
variable {X : Cx} {K : PySem.W.Frag} {e : Expr} {es : List Expr} {g : GE} {gs : GA} {pos : Pos}
theorem da_nil : DA X [] gA0 := by
  refine pa_imp pa_nil fun σ H Q h => ?_
  obtain ⟨M, L, env, st, z, st', er, sr, hg, q⟩ := h
  cases hg
  exact q _ H (Fr.refl _ _) sr .nil
theorem da_cons (h : DE X e g) (h2 : DA X es gs) (hs : starEach (e :: es) X.env = (false, eval e X.env) :: starEach es X.env := by rfl) : DA X (e :: es) (gA1 g gs) := by
  refine pa_imp (pa_cons h h2 hs) fun σ H Q h => ?_
  obtain ⟨M, L, env, st, z, st', er, sr, hg, q⟩ := h
  unfold gA1 at hg
  split at hg
  · rename_i r st1 e1
    split at hg
    · rename_i rs st2 e2
      cases hg
      refine ⟨M, L, env, st, _, _, er, sr, e1, fun v H1 f1 s1 r1 => ?_⟩
      refine ⟨M, L, env, st1, _, _, er.fr f1, s1, e2, fun vs H2 f2 s2 r2 => ?_⟩
      exact q _ H2 (f1.trans f2) s2 (.cons (r1.t.fr f2) r2)
    · cases hg
  · cases hg
/-- the values of a list of results -/
def vals (st : Sto) : List R → Option (List D)
  | [] => some []
  | .d x :: rs => (match vals st rs with
    | some xs => some (x :: xs)
    | none => none)
  | .fr x :: rs => (match vals st rs with
    | some xs => some (x :: xs)
    | none => none)
  | .loc _ :: _ => none
theorem vals_vds {M L : List Addr} {H : Hp} {st : Sto} : ∀ {vs : List V} {rs : List R} {ds : List D}, Paired (RE K M L H) vs rs → vals st rs = some ds → VDs K (M ++ L) H vs ds
  | _, _, _, .nil, e => by cases e; exact .nil
  | _, .d x :: rs, ds, .cons h hs, e => by
    unfold vals at e
    split at e
    · rename_i xs e1
      cases e
      exact .cons (show VD K (M ++ L) H _ x from h) (vals_vds hs e1)
    · cases e
  | _, .fr x :: rs, ds, .cons h hs, e => h.elim
  | _, .loc _ :: rs, ds, .cons h hs, e => by cases e
def gTup (gs : GA) : GE := fun env st => match gs env st with
  | some (rs, st1) => (match vals st1 rs with
    | some ds => if ds.length ≤ sizeLine then some (.d (.tup ds), st1) else none
    | none => none)
  | none => none
def gLst (gs : GA) : GE := fun env st => match gs env st with
  | some (rs, st1) => (match vals st1 rs with
    | some ds => if ds.length ≤ sizeLine then some (.fr (.lst ds), st1) else none
    | none => none)
  | none => none
theorem mv_new {L : List Addr} {H : Hp} {p : Addr} {o : HO} (h : H p = none) : Mv L H L (upd H p o) := (Ext.new h).fr.mv
theorem newTup {M L : List Addr} {H : Hp} {p : Addr} {vs : List V} {ds : List D} {st : Sto} (h : H p = none) (s : SR K M L H st) (r : VDs K (M ++ L) H vs ds) : VD K (M ++ L) (upd H p (.tup vs)) (.ref p) (.tup ds) :=
  .tup (s.fresh h) upd_same (r.mv (mv_new h))
theorem mv_newL {L : List Addr} {H : Hp} {p : Addr} {o : HO} (h : H p = none) : Mv L H (L ++ [p]) (upd H p o) := mv_of (L := L) (Ext.new h).fr (fun _ m => m) fun a m =>
  (List.mem_append.mp m).imp id fun m => by rw [List.mem_singleton.mp m]; exact h
theorem newLst {L : List Addr} {H : Hp} {p : Addr} {vs : List V} {ds : List D} (h : H p = none) (r : VDs K L H vs ds) : CellAt K (L ++ [p]) (upd H p (.lst vs)) p (.lst ds) :=
  ⟨vs, upd_same, r.mv (mv_newL h)⟩
theorem de_tup {k} (h : DA X es gs) : DE X (.Tuple es k pos) (gTup gs) := by
  refine pe_imp (pe_tup h) fun σ H Q h => ?_
  obtain ⟨M, L, env, st, z, st', er, sr, hg, q⟩ := h
  unfold gTup at hg
  split at hg
  · rename_i rs st1 e1
    split at hg
    · rename_i ds e2
      split at hg
      · rename_i hz
        cases hg
        refine ⟨M, L, env, st, _, _, er, sr, e1, fun vs H1 f1 s1 r1 => ?_⟩
        have rr := vals_vds r1 e2
        refine ⟨by rw [rr.length]; exact hz, fun p hp => ?_⟩
        exact q _ _ (f1.trans (Ext.new hp).fr) (s1.ext (Ext.new hp)) (newTup hp s1 rr)
      · cases hg
    · cases hg
  · cases hg
theorem de_lst (h : DA X es gs) : DE X (.List es pos) (gLst gs) := by
  refine pe_imp (pe_lst h) fun σ H Q h => ?_
  obtain ⟨M, L, env, st, z, st', er, sr, hg, q⟩ := h
  unfold gLst at hg
  split at hg
  · rename_i rs st1 e1
    split at hg
    · rename_i ds e2
      split at hg
      · rename_i hz
        cases hg
        refine ⟨M, L, env, st, _, _, er, sr, e1, fun vs H1 f1 s1 r1 => ?_⟩
        have rr := vals_vds r1 e2
        refine ⟨by rw [rr.length]; exact hz, fun p hp => ?_⟩
        exact q _ _ (f1.trans (Ext.new hp).fr) (s1.ext (Ext.new hp)) (((show RO X.K (M ++ L) H1 (upd H1 p (.lst vs)) (.ref p) (.fr (.lst ds)) from ⟨p, rfl, hp, rfl, newLst hp rr⟩).rv (Ext.new hp) s1).back f1 sr s1)
      · cases hg
    · cases hg
  · cases hg
abbrev F := List R → Sto → Option (R × Sto)
/-- a def's promise, by its function -/
def spOf (K : PySem.W.Frag) (n : Nat) (f : F) : Sp := fun vs H Q _ => ∃ M L st rs r st', SR K M L H st ∧ Paired (RE K M L H) vs rs ∧ rs.length = n ∧ f rs st = some (r, st') ∧ ∀ v H', Fr L H H' → SR K M L H' st' → RV K M L H H' st' v r → Q v H'
def gCall (f : F) (gs : GA) : GE := fun env st => match gs env st with
  | some (rs, st1) => f rs st1
  | none => none
theorem paired_len {α β : Type} {P : α → β → Prop} : ∀ {xs : List α} {ys : List β}, Paired P xs ys → xs.length = ys.length
  | _, _, .nil => rfl
  | _, _, .cons _ hs => by simp [paired_len hs]
theorem call_of {n : Nat} {f : F} {E : XK} (hn : ∀ env st rs st', gs env st = some (rs, st') → rs.length = n) : ∀ σ H Q, teOf K (gCall f gs) σ H Q → tCall (spOf K n f) [] E (taOf K gs) σ H Q := by
  intro σ H Q h
  obtain ⟨M, L, env, st, z, st', er, sr, hg, q⟩ := h
  unfold gCall at hg
  split at hg
  · rename_i rs st1 e1
    refine ⟨M, L, env, st, _, _, er, sr, e1, fun vs H1 f1 s1 r1 => ?_⟩
    dsimp only
    rw [List.append_nil]
    refine ⟨M, L, st1, rs, z, _, s1, r1, hn _ _ _ _ e1, hg, fun v H2 f2 s2 r2 => ?_⟩
    exact q v H2 (f1.trans f2) s2 (r2.back f1 sr s1)
  · cases hg
def ALen (gs : GA) (n : Nat) : Prop := ∀ env st rs st', gs env st = some (rs, st') → rs.length = n
theorem alen0 : ALen gA0 0 := fun _ _ _ _ h => by cases h; rfl
theorem alen1 {n : Nat} (h : ALen gs n) : ALen (gA1 g gs) (n + 1) := fun env st rs st' e => by
  unfold gA1 at e
  split at e
  · rename_i r st1 e1
    split at e
    · rename_i rs' st2 e2
      cases e
      rw [List.length_cons, h _ _ _ _ e2]
    · cases e
  · cases e
theorem de_call {k n : Nat} {f : Addr} {fd : FuncData} {ps : List Str} {fn : F} {x : Str} {p : Pos} (F : FnOk X.prog X.w X.K X.mg X.base CX0 k f fd ps (spOf X.K n fn)) (hr : Room k X.A) (hg : Gl X x) (hm : X.mg x = some (.ref f)) (hk : PySem.W.keepIn X.K (.ref f) = true) (hb : Binds X.K fd ps [])
    (ha : DA X (e :: es) gs) (hn : ALen gs n) (hdb : (x == ("__debug__" : Str)) = false := by decide) (he : starEach (e :: es) X.env = (false, eval e X.env) :: starEach es X.env := by rfl) (hpl : (backTo pos (starEach es X.env)).any (·.1) = false := by rfl) :
    DE X (.Call (.Name x p) (e :: es) [] pos) (gCall fn gs) :=
  pe_imp (pe_call (E := E0) F hr hg hm hk hb .nil pass0 ha hdb he hpl) (call_of hn)
/-- a built-in's call, by values -/
def CallS (K : PySem.W.Frag) (r : List V → Hp → VK → Prop) (op : List D → Option R) : Prop :=
  ∀ (L : List Addr) (H : Hp) (xs : List V) (ds : List D) (res : R) (Q : VK), Paired (VC K L H) xs ds → (∀ a ∈ L, ∃ o, H a = some o) → op ds = some res →
    (∀ v H', Ext H H' → RO K L H H' v res → Q v H') → r xs H Q
def curs (st : Sto) : List R → Option (List D)
  | [] => some []
  | r :: rs => (match val st r, curs st rs with
    | some x, some xs => some (x :: xs)
    | _, _ => none)
theorem curs_vcs {M L : List Addr} {H : Hp} {st : Sto} (s : SR K M L H st) : ∀ {vs : List V} {rs : List R} {ds : List D}, Paired (RE K M L H) vs rs → curs st rs = some ds → Paired (VC K (M ++ L) H) vs ds
  | _, _, _, .nil, e => by cases e; exact .nil
  | _, r :: rs, ds, .cons h hs, e => by
    unfold curs at e
    split at e
    · rename_i x xs e1 e2
      cases e
      exact .cons (h.cur s e1) (curs_vcs s hs e2)
    · cases e
def gBlt (op : List D → Option R) (gs : GA) : GE := fun env st => match gs env st with
  | some (rs, st1) => (match curs st1 rs with
    | some ds => (op ds).map fun r => (r, st1)
    | none => none)
  | none => none
theorem blt_of {r : List V → Hp → VK → Prop} {op : List D → Option R} (hs : CallS K r op) : ∀ σ H Q, teOf K (gBlt op gs) σ H Q → tCB r (taOf K gs) σ H Q := by
  intro σ H Q h
  obtain ⟨M, L, env, st, z, st', er, sr, hg, q⟩ := h
  unfold gBlt at hg
  split at hg
  · rename_i rs st1 e1
    split at hg
    · rename_i ds e2
      cases eo : op ds with
      | none => rw [eo] at hg; cases hg
      | some res =>
        rw [eo] at hg
        cases hg
        refine ⟨M, L, env, st, _, _, er, sr, e1, fun vs H1 f1 s1 r1 => ?_⟩
        refine hs (M ++ L) H1 vs ds z Q (curs_vcs s1 r1 e2) (fun a ha => s1.thr ha) eo fun v H' ee rr => ?_
        exact q v H' (f1.trans ee.fr) (s1.ext ee) ((rr.rv ee s1).back f1 sr s1)
    · cases hg
  · cases hg
theorem de_blt {id : String} {x : Str} {p : Pos} {r : List V → Hp → VK → Prop} {op : List D → Option R} (hc : CallR X (.builtin id) r) (hs : CallS X.K r op) (hg : Gl X x) (hm : X.mg x = none) (hv : bootBuiltins x = some (.builtin id)) (ha : DA X (e :: es) gs) (hn : x ≠ "__name__" := by decide) (hdb : (x == ("__debug__" : Str)) = false := by decide)
    (he : starEach (e :: es) X.env = (false, eval e X.env) :: starEach es X.env := by rfl) (hpl : (backTo pos (starEach es X.env)).any (·.1) = false := by rfl) : DE X (.Call (.Name x p) (e :: es) [] pos) (gBlt op gs) :=
  pe_imp (pe_callB hc hg hm hv ha hn hdb he hpl) (blt_of hs)
theorem de_ty {T : String} {x : Str} {p : Pos} {r : List V → Hp → VK → Prop} {op : List D → Option R} (hc : CallR X (.type T) r) (hs : CallS X.K r op) (hg : Gl X x) (hm : X.mg x = none) (hv : bootBuiltins x = some (.type T)) (ha : DA X (e :: es) gs) (hn : x ≠ "__name__" := by decide) (hdb : (x == ("__debug__" : Str)) = false := by decide)
    (he : starEach (e :: es) X.env = (false, eval e X.env) :: starEach es X.env := by rfl) (hpl : (backTo pos (starEach es X.env)).any (·.1) = false := by rfl) : DE X (.Call (.Name x p) (e :: es) [] pos) (gBlt op gs) :=
  pe_imp (pe_callTy hc hg hm hv ha hn hdb he hpl) (blt_of hs)
end
end DL

set_option Elab.async false
set_option linter.all false
set_option maxRecDepth 100000
set_option maxHeartbeats 4000000
namespace DL
open PySem PySem.Spec PyProof.Rows L2

inductive Out where
  | nx (env : Env) (st : Sto) | bk (env : Env) (st : Sto) | ct (env : Env) (st : Sto) | rt (r : R) (st : Sto)
abbrev GS := Env → Sto → Option Out
/-- behind a statement: the names, the store (Y: places that are new) -/
def NPost (K : PySem.W.Frag) (M L : List Addr) (H : Hp) (env : Env) (st : Sto) (N : L2.St → Hp → Prop) : Prop :=
  ∀ σ' H' Y, ER K M (L ++ Y) H' σ' env → SR K M (L ++ Y) H' st → Fr L H H' → (∀ a ∈ Y, H a = none) → N σ' H'
def RPost (K : PySem.W.Frag) (M L : List Addr) (H : Hp) (r : R) (st : Sto) (Q : VK) : Prop :=
  ∀ v H' Y, SR K M (L ++ Y) H' st → Fr L H H' → (∀ a ∈ Y, H a = none) → RV K M (L ++ Y) H H' st v r → Q v H'
def OPost (K : PySem.W.Frag) (M L : List Addr) (H : Hp) (Dn : Ends) : Out → Prop
  | .nx env st => NPost K M L H env st Dn.nx
  | .bk env st => NPost K M L H env st Dn.bk
  | .ct env st => NPost K M L H env st Dn.ct
  | .rt r st => RPost K M L H r st Dn.rt
def tsOf (K : PySem.W.Frag) (g : GS) : TS := fun Dn σ H => ∃ M L env st o, ER K M L H σ env ∧ SR K M L H st ∧ g env st = some o ∧ OPost K M L H Dn o
def DS (X : Cx) (s : Stmt) (g : GS) : Prop := PS X s (tsOf X.K g)
def DSs (X : Cx) (s : List Stmt) (g : GS) : Prop := PSs X s (tsOf X.K g)

section
variable {K : PySem.W.Frag} {M L Y Z : List Addr} {H H1 H2 : Hp} {env : Env} {st st1 : Sto} {N N' : L2.St → Hp → Prop} {Q : VK} {r : R}
theorem fresh_mono (s0 : SR K M L H st) (s : SR K M (L ++ Y) H1 st1) (f : Fr L H H1) {a : Addr} (h : H1 a = none) : H a = none := by
  cases e : H a with
  | none => rfl
  | some o =>
    by_cases m : a ∈ L
    · exact absurd (List.mem_append_right M (List.mem_append_left Y m)) (s.fresh h)
    · rw [f a o m e] at h; cases h
theorem fr_app (f : Fr L H H1) (hY : ∀ a ∈ Y, H a = none) (f2 : Fr (L ++ Y) H1 H2) : Fr L H H2 := fun a o n e => f2 a o (fun m => by
  rcases List.mem_append.mp m with m | m
  · exact n m
  · rw [hY a m] at e; cases e) (f a o n e)
/-- what follows from the state behind a part holds from the state ahead -/
theorem NPost.chain (s0 : SR K M L H st) (s : SR K M (L ++ Y) H1 st1) (f : Fr L H H1) (hY : ∀ a ∈ Y, H a = none) {env2 : Env} {st2 : Sto} (h : NPost K M L H env2 st2 N) : NPost K M (L ++ Y) H1 env2 st2 N :=
  fun σ' H' Z er sr f2 hZ => h σ' H' (Y ++ Z) (by rw [← List.append_assoc]; exact er) (by rw [← List.append_assoc]; exact sr) (fr_app f hY f2) fun a ha => by
    rcases List.mem_append.mp ha with m | m
    · exact hY a m
    · exact fresh_mono s0 s f (hZ a m)
theorem RV.mono0 {L' : List Addr} {H0 H0' : Hp} {v : V} (h : RV K M L' H0 H1 st v r) (w : ∀ p, H0 p = none → H0' p = none) : RV K M L' H0' H1 st v r := by
  cases r with
  | d x => exact h
  | loc n => exact h
  | fr x => obtain ⟨p, e, h0, q⟩ := h; exact ⟨p, e, w p h0, q⟩
theorem RPost.chain (s0 : SR K M L H st) (s : SR K M (L ++ Y) H1 st1) (f : Fr L H H1) (hY : ∀ a ∈ Y, H a = none) {st2 : Sto} (h : RPost K M L H r st2 Q) : RPost K M (L ++ Y) H1 r st2 Q :=
  fun v H' Z sr f2 hZ rv => h v H' (Y ++ Z) (by rw [← List.append_assoc]; exact sr) (fr_app f hY f2) (fun a ha => by
    rcases List.mem_append.mp ha with m | m
    · exact hY a m
    · exact fresh_mono s0 s f (hZ a m)) (by
      rw [← List.append_assoc]
      exact rv.mono0 fun p hp => fresh_mono s0 s f hp)
theorem OPost.chain {Dn : Ends} {o : Out} (s0 : SR K M L H st) (s : SR K M (L ++ Y) H1 st1) (f : Fr L H H1) (hY : ∀ a ∈ Y, H a = none) (h : OPost K M L H Dn o) : OPost K M (L ++ Y) H1 Dn o := by
  cases o with
  | nx => exact NPost.chain s0 s f hY h
  | bk => exact NPost.chain s0 s f hY h
  | ct => exact NPost.chain s0 s f hY h
  | rt => exact RPost.chain s0 s f hY h
/-- no new place -/
theorem OPost.here {Dn : Ends} {o : Out} (s0 : SR K M L H st) (s : SR K M L H1 st1) (f : Fr L H H1) (h : OPost K M L H Dn o) : OPost K M L H1 Dn o := by
  have q := OPost.chain (Y := []) s0 (by rw [List.append_nil]; exact s) f (fun _ m => nomatch m) h
  rw [List.append_nil] at q
  exact q
theorem NPost.go {σ' : L2.St} (h : NPost K M L H env st1 N) (er : ER K M L H1 σ' env) (sr : SR K M L H1 st1) (f : Fr L H H1) : N σ' H1 :=
  h σ' H1 [] (by rw [List.append_nil]; exact er) (by rw [List.append_nil]; exact sr) f fun _ m => nomatch m
theorem RPost.go {v : V} (h : RPost K M L H r st1 Q) (sr : SR K M L H1 st1) (f : Fr L H H1) (rv : RV K M L H H1 st1 v r) : Q v H1 :=
  h v H1 [] (by rw [List.append_nil]; exact sr) f (fun _ m => nomatch m) (by rw [List.append_nil]; exact rv)
end

/-! ### small statements -/
def gNext : GS := fun env st => some (.nx env st)
def gSeq (a b : GS) : GS := fun env st => match a env st with
  | some (.nx env1 st1) => b env1 st1
  | some o => some o
  | none => none
def gSet (i : Nat) (g : GE) : GS := fun env st => match g env st with
  | some (r, st1) => some (.nx (env.set i (some r.t)) st1)
  | none => none
/-- a new thing that is to be changed -/
def gSetM (i : Nat) (g : GE) : GS := fun env st => match g env st with
  | some (.fr x, st1) => some (.nx (env.set i (some (.loc st1.length))) (st1 ++ [x]))
  | _ => none
def gDrop (g : GE) : GS := fun env st => match g env st with
  | some (_, st1) => some (.nx env st1)
  | none => none
def gRet (g : GE) : GS := fun env st => match g env st with
  | some (r, st1) => some (.rt r st1)
  | none => none
def gRetN : GS := fun _ st => some (.rt (.d .non) st)
def gIf (t : GT) (a b : GS) : GS := fun env st => match t env st with
  | some (true, st1) => a env st1
  | some (false, st1) => b env st1
  | none => none
def gBrk : GS := fun env st => some (.bk env st)
def gCnt : GS := fun env st => some (.ct env st)
section
variable {X : Cx} {K : PySem.W.Frag} {s : Stmt} {rest : List Stmt} {a b : GS} {g : GE} {t : GT} {e : Expr} {pos : Pos}
theorem ER.set {M L : List Addr} {H : Hp} {σ : L2.St} {env : Env} (er : ER K M L H σ env) {i : Nat} {v : V} {r : R} (h : RE K M L H v r) : ER K M L H (σ.set i (some v)) (env.set i (some r)) := by
  refine ⟨by rw [List.length_set, List.length_set]; exact er.len, fun j r' e => ?_⟩
  by_cases hj : i = j
  · subst hj
    have hl : i < env.length := by
      have := (List.getElem?_eq_some_iff.mp e).1
      rw [List.length_set] at this; exact this
    rw [List.getElem?_set_self hl] at e
    cases e
    exact ⟨v, List.getElem?_set_self (by rw [← er.len]; exact hl), h⟩
  · rw [List.getElem?_set_ne hj] at e
    rw [List.getElem?_set_ne hj]
    exact er.at_ j r' e
theorem seq_of : ∀ Dn σ H, tsOf K (gSeq a b) Dn σ H → tSeq (tsOf K a) (tsOf K b) Dn σ H := by
  intro Dn σ H h
  obtain ⟨M, L, env, st, o, er, sr, hg, q⟩ := h
  unfold gSeq at hg
  split at hg
  · rename_i env1 st1 e1
    refine ⟨M, L, env, st, _, er, sr, e1, fun σ' H' Y er1 sr1 f hY => ?_⟩
    exact ⟨M, L ++ Y, env1, st1, o, er1, sr1, hg, q.chain sr sr1 f hY⟩
  · rename_i o' h1 e1
    cases hg
    refine ⟨M, L, env, st, _, er, sr, e1, ?_⟩
    cases o with
    | nx env1 st1 => exact absurd rfl (h1 env1 st1)
    | bk => exact q
    | ct => exact q
    | rt => exact q
  · cases hg
theorem dss_nil : DSs X [] gNext := pss_imp pss_nil fun Dn σ H h => by
  obtain ⟨M, L, env, st, o, er, sr, hg, q⟩ := h
  cases hg
  exact NPost.go q er sr (Fr.refl _ _)
theorem dss_cons (h1 : DS X s a) (h2 : DSs X rest b) : DSs X (s :: rest) (gSeq a b) := pss_imp (pss_cons h1 h2) seq_of
theorem dss_one (h1 : DS X s a) : DSs X [s] a := pss_one h1
theorem asg_of {te : TE} {i : Nat} (w : ∀ σ H Q, teOf K g σ H Q → te σ H Q) : ∀ Dn σ H, tsOf K (gSet i g) Dn σ H → tAsg te (gName i) Dn σ H := by
  intro Dn σ H h
  obtain ⟨M, L, env, st, o, er, sr, hg, q⟩ := h
  unfold gSet at hg
  split at hg
  · rename_i r st1 e1
    cases hg
    exact w _ _ _ ⟨M, L, env, st, _, _, er, sr, e1, fun v H1 f1 s1 r1 => NPost.go q ((er.fr f1).set r1.t) s1 f1⟩
  · cases hg
theorem asgM_of {te : TE} {i : Nat} (w : ∀ σ H Q, teOf K g σ H Q → te σ H Q) : ∀ Dn σ H, tsOf K (gSetM i g) Dn σ H → tAsg te (gName i) Dn σ H := by
  intro Dn σ H h
  obtain ⟨M, L, env, st, o, er, sr, hg, q⟩ := h
  unfold gSetM at hg
  split at hg
  · rename_i x st1 e1
    cases hg
    refine w _ _ _ ⟨M, L, env, st, _, _, er, sr, e1, fun v H1 f1 s1 r1 => ?_⟩
    obtain ⟨p, rfl, h0, hm, hl, q1⟩ := r1
    have e0 : ∀ a ∈ [p], H a = none := fun a m => by rw [List.mem_singleton.mp m]; exact h0
    have er1 : ER K M (L ++ [p]) H1 σ env := ⟨er.len, fun j r e => by
      obtain ⟨v, e1, re⟩ := er.at_ j r e
      refine ⟨v, e1, ?_⟩
      cases r with
      | d x =>
        refine VD.mv (mv_of f1 (fun _ m => List.mem_append_right _ m) fun a m => ?_) re
        rw [← List.append_assoc] at m
        exact (List.mem_append.mp m).imp id (e0 a)
      | loc n =>
        obtain ⟨a, h1, h2⟩ := re
        exact ⟨a, by rw [List.getElem?_append_left (List.getElem?_eq_some_iff.mp h1).1]; exact h1, h2⟩
      | fr x => exact re⟩
    have hl1 : L.length = st1.length := s1.len
    exact q _ H1 [p] (ER.set er1 (i := i) (v := .ref p) (r := .loc st1.length) ⟨p, by rw [← hl1]; simp, rfl⟩) q1 f1 e0
  · cases hg
theorem ds_set {i : Nat} {x : Str} {pos' : Pos} (hN : X.N.Nodup) (hi : X.N[i]? = some x) (hx : Loc X.env.scope x) (he : DE X e g) (hs : swapsWith e (some (.Name x pos')) pos.line X.env = pure false := by rfl) (hf : X.fn x = true ∨ X.env.scope.names.lookup x = some .local := by first | exact .inl rfl | exact .inr rfl | assumption) :
    DS X (.Assign [.Name x pos'] e pos) (gSet i g) := ps_imp (ps_set hN hi hx he hs hf) (asg_of fun _ _ _ h => h)
theorem ds_setM {i : Nat} {x : Str} {pos' : Pos} (hN : X.N.Nodup) (hi : X.N[i]? = some x) (hx : Loc X.env.scope x) (he : DE X e g) (hs : swapsWith e (some (.Name x pos')) pos.line X.env = pure false := by rfl) (hf : X.fn x = true ∨ X.env.scope.names.lookup x = some .local := by first | exact .inl rfl | exact .inr rfl | assumption) :
    DS X (.Assign [.Name x pos'] e pos) (gSetM i g) := ps_imp (ps_set hN hi hx he hs hf) (asgM_of fun _ _ _ h => h)
theorem ds_expr (he : DE X e g) (hs : swapsWith e none pos.line X.env = pure false := by rfl) : DS X (.Expr e pos) (gDrop g) := ps_imp (ps_expr he hs) fun Dn σ H h => by
  obtain ⟨M, L, env, st, o, er, sr, hg, q⟩ := h
  unfold gDrop at hg
  split at hg
  · rename_i r st1 e1
    cases hg
    exact ⟨M, L, env, st, _, _, er, sr, e1, fun v H1 f1 s1 r1 => NPost.go q (er.fr f1) s1 f1⟩
  · cases hg
theorem ds_ret (he : DE X e g) : DS X (.Return (some e) pos) (gRet g) := ps_imp (ps_ret he) fun Dn σ H h => by
  obtain ⟨M, L, env, st, o, er, sr, hg, q⟩ := h
  unfold gRet at hg
  split at hg
  · rename_i r st1 e1
    cases hg
    exact ⟨M, L, env, st, _, _, er, sr, e1, fun v H1 f1 s1 r1 => RPost.go q s1 f1 r1⟩
  · cases hg
theorem ds_retN : DS X (.Return none pos) gRetN := ps_imp ps_retN fun Dn σ H h => by
  obtain ⟨M, L, env, st, o, er, sr, hg, q⟩ := h
  cases hg
  exact RPost.go q sr (Fr.refl _ _) (show VD _ _ _ _ _ from .non)
theorem ds_if {c : Expr} {sa sb : List Stmt} (hc : DT X c t) (ha : DSs X sa a) (hb : DSs X sb b) : DS X (.If c sa sb pos) (gIf t a b) := ps_imp (ps_if hc ha hb) fun Dn σ H h => by
  obtain ⟨M, L, env, st, o, er, sr, hg, q⟩ := h
  unfold gIf at hg
  split at hg
  · rename_i st1 e1
    refine ⟨M, L, env, st, _, _, er, sr, e1, fun H1 f1 s1 => ?_⟩
    try dsimp only
    rw [if_pos rfl]
    exact ⟨M, L, env, st1, o, er.fr f1, s1, hg, q.here sr s1 f1⟩
  · rename_i st1 e1
    refine ⟨M, L, env, st, _, _, er, sr, e1, fun H1 f1 s1 => ?_⟩
    try dsimp only
    rw [if_neg Bool.false_ne_true]
    exact ⟨M, L, env, st1, o, er.fr f1, s1, hg, q.here sr s1 f1⟩
  · cases hg
theorem ds_brk : DS X (.Break pos) gBrk := ps_imp ps_break fun Dn σ H h => by
  obtain ⟨M, L, env, st, o, er, sr, hg, q⟩ := h
  cases hg
  exact NPost.go q er sr (Fr.refl _ _)
theorem ds_cnt : DS X (.Continue pos) gCnt := ps_imp ps_continue fun Dn σ H h => by
  obtain ⟨M, L, env, st, o, er, sr, hg, q⟩ := h
  cases hg
  exact NPost.go q er sr (Fr.refl _ _)
theorem ds_pass : DS X (.Pass pos) gNext := ps_imp ps_pass fun Dn σ H h => by
  obtain ⟨M, L, env, st, o, er, sr, hg, q⟩ := h
  cases hg
  exact NPost.go q er sr (Fr.refl _ _)
end

/-! ### a def -/
def fin (n : Nat) (st : Sto) : R → Option (R × Sto)
  | .d x => some (.d x, st.take n)
  | .fr x => some (.fr x, st.take n)
  | .loc m => if m < n then some (.loc m, st.take n) else (cellV st[m]?).map fun c => (.fr c, st.take n)
def gFun (n : Nat) (g : GS) : F := fun rs st => match g (rs.map some ++ List.replicate (n - rs.length) none) st with
  | some (.nx _ st1) => some (.d .non, st1.take st.length)
  | some (.rt r st1) => fin st.length st1 r
  | _ => none
section
variable {K : PySem.W.Frag} {M L Y : List Addr} {H H' : Hp} {st st' : Sto} {v : V} {r r' : R}
theorem mem_cut {a : Addr} (h : a ∈ M ++ L) : a ∈ M ++ (L ++ Y) := by
  rw [← List.append_assoc]
  exact List.mem_append_left _ h
theorem SR.cut (s0 : SR K M L H st) (s : SR K M (L ++ Y) H' st') : SR K M L H' (st'.take st.length) := by
  have hl := s.len
  rw [List.length_append] at hl
  have h0 := s0.len
  refine ⟨(List.nodup_append.mp s.nd).1, by rw [List.length_take]; omega, fun n a c h1 h2 => ?_, s.hid⟩
  have h3 := (List.getElem?_eq_some_iff.mp h1).1
  rw [List.getElem?_take] at h2
  rw [if_pos (by omega)] at h2
  exact (s.at_ n a c (by rw [List.getElem?_append_left h3]; exact h1) h2).mv (mv_sub fun a m => mem_cut m) fun o e => e
/-- one cell behind those that stay -/
theorem SR.one {p : Addr} {x : D} {S : List Addr} (sc : SR K M L H' st) (npL : p ∉ L) (hS : ∀ a ∈ M ++ (L ++ [p]), a ∈ S) (hc : CellAt K S H' p x) (ha : ∀ (n : Nat) (a : Addr) (c : D), L[n]? = some a → st[n]? = some c → CellAt K S H' a c) : SR K M (L ++ [p]) H' (st ++ [x]) := by
  refine ⟨List.nodup_append.mpr ⟨sc.nd, by simp, fun a ha b hb => ?_⟩, by simp [sc.len], fun n a c h1 h2 => ?_, sc.hid⟩
  · rw [List.mem_singleton.mp hb]
    exact fun e => npL (e ▸ ha)
  · by_cases hn : n < L.length
    · rw [List.getElem?_append_left hn] at h1
      rw [List.getElem?_append_left (by rw [← sc.len]; exact hn)] at h2
      exact (ha n a c h1 h2).mv (mv_sub hS) fun o e => e
    · have hl2 := (List.getElem?_eq_some_iff.mp h1).1
      simp only [List.length_append, List.length_singleton] at hl2
      have e : n = L.length := by omega
      subst e
      simp at h1
      subst h1
      rw [sc.len] at h2
      simp only [List.getElem?_concat_length] at h2
      cases h2
      exact hc.mv (mv_sub hS) fun o e => e
theorem SR.take_at (s0 : SR K M L H st) (s : SR K M (L ++ Y) H' st') {n : Nat} {a : Addr} {c : D} (h1 : L[n]? = some a) (h2 : (st'.take st.length)[n]? = some c) : CellAt K (M ++ (L ++ Y)) H' a c := by
  have h0 := s0.len
  have h3 := (List.getElem?_eq_some_iff.mp h1).1
  rw [List.getElem?_take, if_pos (by omega)] at h2
  exact s.at_ n a c (by rw [List.getElem?_append_left h3]; exact h1) h2
theorem fin_ok {H0 : Hp} {st1 : Sto} (s0 : SR K M L H0 st) (s : SR K M (L ++ Y) H' st') (hY : ∀ a ∈ Y, H0 a = none) (h : RV K M (L ++ Y) H0 H' st' v r) (e : fin st.length st' r = some (r', st1)) : st1 = st'.take st.length ∧ RV K M L H0 H' st1 v r' := by
  have sc := s0.cut s
  have h0 := s0.len
  cases r with
  | d x =>
    cases e
    exact ⟨rfl, VD.mv (mv_sub fun a m => mem_cut m) (show VD K (M ++ (L ++ Y)) H' v x from h)⟩
  | fr x =>
    cases e
    refine ⟨rfl, ?_⟩
    obtain ⟨p, rfl, hp, hm, hl, q⟩ := h
    obtain ⟨q1, q2, q3⟩ := q.snoc
    have npL : p ∉ L := fun m => q2 (List.mem_append_left _ m)
    refine ⟨p, rfl, hp, hm, hl, sc.one npL (S := M ++ ((L ++ Y) ++ [p])) (fun a m => ?_) q3 fun n a c h1 h2 => ?_⟩
    · rcases List.mem_append.mp m with m | m
      · exact List.mem_append_left _ m
      · rcases List.mem_append.mp m with m | m
        · exact List.mem_append_right _ (List.mem_append_left _ (List.mem_append_left _ m))
        · exact List.mem_append_right _ (List.mem_append_right _ m)
    · have h3 := (List.getElem?_eq_some_iff.mp h1).1
      rw [List.getElem?_take, if_pos (by omega)] at h2
      have h4 := (List.getElem?_eq_some_iff.mp h2).1
      exact q.at_ n a c (by rw [List.append_assoc, List.getElem?_append_left h3]; exact h1) (by rw [List.getElem?_append_left h4]; exact h2)
  | loc m =>
    simp only [fin] at e
    obtain ⟨a, ha, rfl⟩ := h
    by_cases hm : m < st.length
    · rw [if_pos hm] at e
      cases e
      exact ⟨rfl, a, by rw [List.getElem?_append_left (by omega)] at ha; exact ha, rfl⟩
    · rw [if_neg hm] at e
      cases ec : cellV st'[m]? with
      | none => rw [ec] at e; cases e
      | some c =>
        rw [ec] at e
        cases e
        obtain ⟨e1, hl⟩ := cellV_some ec
        have aY : a ∈ Y := by
          rw [List.getElem?_append_right (by omega)] at ha
          exact List.mem_of_getElem? ha
        have naL : a ∉ L := fun m => (List.nodup_append.mp s.nd).2.2 a m a aY rfl
        refine ⟨rfl, a, rfl, hY a aY, fun m => ?_, hl, sc.one naL (S := M ++ (L ++ Y)) (fun b m => ?_) (s.at_ m a c ha e1) fun n b c' h1 h2 => s0.take_at s h1 h2⟩
        · obtain ⟨o, q⟩ := s0.hid a m
          rw [hY a aY] at q; cases q
        · rcases List.mem_append.mp m with m | m
          · exact List.mem_append_left _ m
          · rcases List.mem_append.mp m with m | m
            · exact List.mem_append_right _ (List.mem_append_left _ m)
            · rw [List.mem_singleton.mp m]; exact List.mem_append_right _ (List.mem_append_right _ aY)
end
section
variable {P : Program} {w : World} {K : PySem.W.Frag} {mg : Str → Option Value} {base : Heap}
theorem er_start {M L : List Addr} {H : Hp} {vs : List V} {rs : List R} {N : List Str} (h : Paired (RE K M L H) vs rs) : ER K M L H (L2.start N vs) (rs.map some ++ List.replicate (N.length - rs.length) none) := by
  have hl := paired_len h
  unfold L2.start
  refine ⟨by simp [hl], fun i r e => ?_⟩
  by_cases hi : i < rs.length
  · rw [List.getElem?_append_left (by simpa using hi), List.getElem?_map] at e
    rw [List.getElem?_append_left (by simp; omega), List.getElem?_map]
    cases e1 : rs[i]? with
    | none => rw [e1] at e; cases e
    | some r' =>
      rw [e1] at e
      cases e
      have : ∀ {vs : List V} {rs : List R} {i : Nat} {r : R}, Paired (RE K M L H) vs rs → rs[i]? = some r → ∃ v, vs[i]? = some v ∧ RE K M L H v r := by
        intro vs rs i r h
        induction h generalizing i with
        | nil => intro e; simp at e
        | cons h hs ih =>
          intro e
          cases i with
          | zero => simp at e; subst e; exact ⟨_, rfl, h⟩
          | succ i =>
            obtain ⟨v, q1, q2⟩ := ih (i := i) (by simpa using e)
            exact ⟨v, by simpa using q1, q2⟩
      obtain ⟨v, q1, q2⟩ := this h e1
      exact ⟨v, by rw [q1]; rfl, q2⟩
  · rw [List.getElem?_append_right (by simp; omega)] at e
    have := List.mem_of_getElem? e
    have := List.eq_of_mem_replicate this
    cases this
theorem fn_ok {x qual : Str} {params : Arguments} {body : List Stmt} {scope : Scope} {f : Addr} {fd : FuncData} {N ps : List Str} {k : Nat} {g : GS} (Fd : FunD K x qual params body scope [] [] f fd) (S : FnScope N ps scope)
    (hb : ∀ (cdv : Value) (A : Around) (outer : List PySem.Env) (s : Shared) (H : Hp) (E : XK), Room k (A.deeper (envOfC qual scope s.heap.objs.size f cdv)) → DSs (cxOf CX0 P w K mg base N qual scope f cdv A outer s H E).nox body g) :
    FnOk P w K mg base CX0 (k + 1) f fd ps (spOf K ps.length (gFun N.length g)) := by
  refine Fd.ok S (fun vs H Q E h => ?_) fun cdv A outer s H vs Q E hr h => ?_
  · obtain ⟨M, L, st, rs, r, st', sr, pr, hl, _⟩ := h
    rw [paired_len pr, hl]
  · refine ⟨tsOf K g, PSs.nox (hb cdv A outer s H E hr), ?_⟩
    obtain ⟨M, L, st, rs, r, st', sr, pr, hl, hf, q⟩ := h
    unfold gFun at hf
    split at hf
    · rename_i env1 st1 e1
      cases hf
      refine ⟨M, L, _, st, _, er_start pr, sr, e1, fun σ' H' Y er1 sr1 f1 hY => ?_⟩
      exact q _ H' f1 (sr.cut sr1) (show VD _ _ _ _ _ from .non)
    · rename_i r1 st1 e1
      refine ⟨M, L, _, st, _, er_start pr, sr, e1, fun v H' Y sr1 f1 hY rv => ?_⟩
      obtain ⟨rfl, rr⟩ := fin_ok sr sr1 hY rv hf
      exact q v H' f1 (sr.cut sr1) rr
    · cases hf
end
end DL

set_option Elab.async false
set_option linter.all false
set_option maxRecDepth 100000
set_option maxHeartbeats 4000000
namespace DL
open PySem PySem.Spec PyProof.Rows L2

/-! ### targets -/
abbrev GG := D → Env → Option Env
def SameBut (js : List Nat) (σ σ' : L2.St) : Prop := σ'.length = σ.length ∧ ∀ i, i ∉ js → σ'[i]? = σ[i]?
theorem wipe_get {σ : L2.St} (i : Nat) : ∀ vs : List Nat, (wipe σ vs)[i]? = if i ∈ vs then (if i < σ.length then some none else none) else σ[i]?
  | [] => by simp [wipe]
  | v :: vs => by
    unfold wipe
    rw [List.getElem?_set, wipe_get i vs, wipe_length]
    by_cases h : v = i
    · subst h
      simp
    · rw [if_neg h]
      have : (i ∈ v :: vs) = (i ∈ vs) := by
        have h' : ¬ i = v := fun e => h e.symm
        simp [h']
      simp only [this]
theorem wipe_same {js vs : List Nat} {σ σ' : L2.St} (h : SameBut js σ σ') (hj : ∀ j ∈ js, j ∈ vs) : wipe σ' vs = wipe σ vs := by
  apply List.ext_getElem?
  intro i
  rw [wipe_get, wipe_get, h.1]
  by_cases hi : i ∈ vs
  · rw [if_pos hi, if_pos hi]
  · rw [if_neg hi, if_neg hi, h.2 i (fun m => hi (hj i m))]
theorem SameBut.refl {js : List Nat} {σ : L2.St} : SameBut js σ σ := ⟨rfl, fun _ _ => rfl⟩
theorem SameBut.trans {js js' : List Nat} {σ σ1 σ2 : L2.St} (h : SameBut js σ σ1) (h2 : SameBut js' σ1 σ2) : SameBut (js ++ js') σ σ2 :=
  ⟨h2.1.trans h.1, fun i m => (h2.2 i fun q => m (List.mem_append_right _ q)).trans (h.2 i fun q => m (List.mem_append_left _ q))⟩
def tgOf (K : PySem.W.Frag) (g : GG) (js : List Nat) : TG := fun v σ H Q => ∃ M L env d env', VD K (M ++ L) H v d ∧ ER K M L H σ env ∧ g d env = some env' ∧ ∀ σ', ER K M L H σ' env' → SameBut js σ σ' → Q σ' H
def tgsOf (K : PySem.W.Frag) (g : List D → Env → Option Env) (js : List Nat) : TGs := fun vs σ H Q => ∃ M L env ds env', VDs K (M ++ L) H vs ds ∧ ER K M L H σ env ∧ g ds env = some env' ∧ ∀ σ', ER K M L H σ' env' → SameBut js σ σ' → Q σ' H
def DG (X : Cx) (e : Expr) (g : GG) (js : List Nat) : Prop := PG X e (tgOf X.K g js)
def DGs (X : Cx) (es : List Expr) (g : List D → Env → Option Env) (js : List Nat) : Prop := PGs X es (tgsOf X.K g js)
def gN (i : Nat) : GG := fun d env => some (env.set i (some (.d d)))
def gN0 : List D → Env → Option Env := fun ds env => match ds with
  | [] => some env
  | _ => none
def gN1 (g : GG) (gs : List D → Env → Option Env) : List D → Env → Option Env := fun ds env => match ds with
  | d :: ds => (match g d env with
    | some env1 => gs ds env1
    | none => none)
  | [] => none
def gNT (n : Nat) (gs : List D → Env → Option Env) : GG := fun d env => match d with
  | .tup ds => if ds.length = n then gs ds env else none
  | _ => none
section
variable {X : Cx} {K : PySem.W.Frag} {e : Expr} {es : List Expr} {g : GG} {gs : List D → Env → Option Env} {js js' : List Nat} {pos : Pos}
theorem pg_imp {t t' : TG} (h : PG X e t) (w : ∀ v σ H Q, t' v σ H Q → t v σ H Q) : PG X e t' := ⟨fun pins s σ H v u Q I r q => h.run pins s σ H v u Q I r (w v σ H Q q)⟩
theorem pgs_imp {t t' : TGs} (h : PGs X es t) (w : ∀ v σ H Q, t' v σ H Q → t v σ H Q) : PGs X es t' := ⟨fun pins s σ H v u Q I r q => h.run pins s σ H v u Q I r (w v σ H Q q)⟩
theorem dg_name {i : Nat} {x : Str} (hN : X.N.Nodup) (hi : X.N[i]? = some x) (hx : Loc X.env.scope x) (hf : X.fn x = true ∨ X.env.scope.names.lookup x = some .local := by first | exact .inl rfl | exact .inr rfl | assumption) : DG X (.Name x pos) (gN i) [i] :=
  pg_imp (pg_name hN hi hx hf) fun v σ H Q h => by
    obtain ⟨M, L, env, d, env', hv, er, hg, q⟩ := h
    cases hg
    exact q _ (er.set hv) ⟨by rw [List.length_set], fun j hj => List.getElem?_set_ne fun e => hj (by rw [e]; exact List.mem_singleton.mpr rfl)⟩
theorem dgs_nil : DGs X [] gN0 [] := pgs_imp pgs_nil fun v σ H Q h => by
  obtain ⟨M, L, env, ds, env', hv, er, hg, q⟩ := h
  unfold gN0 at hg
  split at hg
  · cases hg
    cases hv
    exact ⟨rfl, q σ er SameBut.refl⟩
  · cases hg
theorem dgs_cons (h1 : DG X e g js) (h2 : DGs X es gs js') (hs : (assignEach (e :: es) X.env).map (·.2) = assign e X.env :: (assignEach es X.env).map (·.2) := by rfl) : DGs X (e :: es) (gN1 g gs) (js ++ js') :=
  pgs_imp (pgs_cons h1 h2 hs) fun v σ H Q h => by
    obtain ⟨M, L, env, ds, env', hv, er, hg, q⟩ := h
    unfold gN1 at hg
    split at hg
    · rename_i d ds
      split at hg
      · rename_i env1 e1
        cases hv with
        | cons hv hvs =>
          exact ⟨_, _, rfl, M, L, env, d, env1, hv, er, e1, fun σ1 er1 sb1 => ⟨M, L, env1, ds, env', hvs, er1, hg, fun σ2 er2 sb2 => q σ2 er2 (sb1.trans sb2)⟩⟩
      · cases hg
    · cases hg
theorem dg_tup {k n : Nat} (hc : X.calm = true) (h : DGs X es gs js) (hn : (assignEach es X.env).length = n := by rfl) (hst : (assignEach es X.env).findIdx? (·.1) = none := by rfl) : DG X (.Tuple es k pos) (gNT n gs) js :=
  pg_imp (pg_tup hc h hn hst) fun v σ H Q h => by
    obtain ⟨M, L, env, d, env', hv, er, hg, q⟩ := h
    unfold gNT at hg
    split at hg
    · rename_i ds
      split at hg
      · rename_i hl
        cases hv with
        | tup h0 h1 h2 => exact ⟨_, _, rfl, .inl (.inl h1), by rw [h2.length]; exact hl, M, L, env, ds, env', h2, er, hg, q⟩
      · cases hg
    · cases hg
/-- target = value -/
def gAsg (ge : GE) (g : GG) : GS := fun env st => match ge env st with
  | some (r, st1) => (match val st1 r with
    | some d => (match r with
      | .loc _ => none
      | _ => (match g d env with
        | some env1 => some (.nx env1 st1)
        | none => none))
    | none => none)
  | none => none
theorem ds_asg {tg : Expr} {ge : GE} (he : DE X e ge) (hg : DG X tg g js) (hs : swapsWithSole [tg] e pos.line X.env = pure false := by rfl) (hw : swappedStores [tg] e X.env = pure none := by rfl)
    (h1 : (assignEach [tg] X.env).map (·.2) = [assign tg X.env] := by rfl) : DS X (.Assign [tg] e pos) (gAsg ge g) := ps_imp (ps_asg he hg hs hw h1) fun Dn σ H h => by
  obtain ⟨M, L, env, st, o, er, sr, hg, q⟩ := h
  unfold gAsg at hg
  split at hg
  · rename_i r st1 e1
    split at hg
    · rename_i d e2
      split at hg
      · cases hg
      · rename_i hnl
        split at hg
        · rename_i env1 e3
          cases hg
          refine ⟨M, L, env, st, _, _, er, sr, e1, fun v H1 f1 s1 r1 => ?_⟩
          have hv : VD X.K (M ++ L) H1 v d := by
            have h2 := r1.t
            cases r with
            | d x => cases e2; exact h2
            | fr x => cases e2; exact h2
            | loc n => exact absurd rfl (hnl n)
          exact ⟨M, L, env, d, env1, hv, er.fr f1, e3, fun σ' er' _ => NPost.go q er' s1 f1⟩
        · cases hg
    · cases hg
  · cases hg
end

/-! ### what is walked -/
/-- J yields the trees xs, one by one -/
def Vw (K : PySem.W.Frag) (J : It) (xs : List D) (S : List Addr) (H : Hp) : Prop :=
  ∀ i : Nat, (∀ d, xs[i]? = some d → J.go i H ∧ ∀ x H', J.yld i H x H' → H' = H ∧ VD K S H x d) ∧ (xs[i]? = none → J.stop i H)
def SrcOk (K : PySem.W.Frag) (M L : List Addr) (J : It) (xs : List D) (H : Hp) : Option Nat → Prop
  | none => ∀ (M' : List Addr) (H' : Hp), Fr L H H' → (∀ a ∈ M', a ∈ M ∨ H a = none) → Vw K J xs (M' ++ L) H'
  | some n => ∃ a, L[n]? = some a ∧ ∀ (M' : List Addr) (H' : Hp), CellAt K (M' ++ L) H' a (.lst xs) → Vw K J xs (M' ++ L) H'
abbrev GI := Env → Sto → Option ((List D × Option Nat) × Sto)
def tiOf (K : PySem.W.Frag) (g : GI) : TI := fun σ H Q => ∃ M L env st xs lk st', ER K M L H σ env ∧ SR K M L H st ∧ g env st = some ((xs, lk), st') ∧ ∀ J H', Fr L H H' → SR K M L H' st' → SrcOk K M L J xs H' lk → Q J H'
def DI (X : Cx) (tg e : Expr) (g : GI) : Prop := PI X tg e (tiOf X.K g)
section
variable {X : Cx} {K : PySem.W.Frag} {tg e : Expr} {pos : Pos}
theorem pi_imp {t t' : TI} (h : PI X tg e t) (w : ∀ σ H Q, t' σ H Q → t σ H Q) : PI X tg e t' := ⟨fun pins s σ H Q I q => h.run pins s σ H Q I (w σ H Q q)⟩
theorem pi_or {t t' : TI} (h : PI X tg e t) (h' : PI X tg e t') : PI X tg e (fun σ H Q => t σ H Q ∨ t' σ H Q) := ⟨fun pins s σ H Q I q => q.elim (h.run pins s σ H Q I) (h'.run pins s σ H Q I)⟩
theorem vw_list {a : Addr} {vs : List V} {xs : List D} {S : List Addr} {H : Hp} (h : SqL K H a vs) (r : VDs K S H vs xs) : Vw K (Itl K a) xs S H := fun i => by
  refine ⟨fun d e => ?_, fun e => ?_⟩
  · obtain ⟨v, e1, hv⟩ := r.get e
    refine ⟨⟨vs, v, h, e1⟩, fun x H' y => ?_⟩
    obtain ⟨rfl, y⟩ := y
    have := y vs h
    rw [e1] at this
    cases this
    exact ⟨rfl, hv⟩
  · exact ⟨vs, h, by rw [r.length]; exact List.getElem?_eq_none_iff.mp e⟩
theorem vw_tup {a : Addr} {vs : List V} {xs : List D} {S : List Addr} {H : Hp} (h : SqT K H a vs) (r : VDs K S H vs xs) : Vw K (Itt K a) xs S H := fun i => by
  refine ⟨fun d e => ?_, fun e => ?_⟩
  · obtain ⟨v, e1, hv⟩ := r.get e
    refine ⟨⟨vs, v, h, e1⟩, fun x H' y => ?_⟩
    obtain ⟨rfl, y⟩ := y
    have := y vs h
    rw [e1] at this
    cases this
    exact ⟨rfl, hv⟩
  · exact ⟨vs, h, by rw [r.length]; exact List.getElem?_eq_none_iff.mp e⟩
def signs (x : Str) : List D := x.cps.toList.map fun c => .str ⟨#[c]⟩
theorem vw_str {x : Str} {S : List Addr} {H : Hp} : Vw K (Its x) (signs x) S H := fun i => by
  refine ⟨fun d e => ?_, fun e => ?_⟩
  · unfold signs at e
    rw [List.getElem?_map] at e
    cases e1 : x.cps.toList[i]? with
    | none => rw [e1] at e; cases e
    | some c =>
      rw [e1] at e
      cases e
      have hi : i < x.cps.size := by
        have := (List.getElem?_eq_some_iff.mp e1).1
        simpa using this
      refine ⟨hi, fun y H' hy => ?_⟩
      obtain ⟨rfl, c', e2, rfl⟩ := hy
      have e3 : x.cps.toList[i]? = x.cps[i]? := by simp
      rw [e3, e2] at e1
      cases e1
      exact ⟨rfl, .str _⟩
  · unfold signs at e
    have := List.getElem?_eq_none_iff.mp e
    rw [List.length_map] at this
    show x.cps.size ≤ i
    simpa using this
/-- a list, a tuple, a text -/
def gIter (ge : GE) : GI := fun env st => match ge env st with
  | some (.d (.lst xs), st1) => some ((xs, none), st1)
  | some (.fr (.lst xs), st1) => some ((xs, none), st1)
  | some (.d (.tup xs), st1) => some ((xs, none), st1)
  | some (.d (.frl xs), st1) => some ((xs, none), st1)
  | some (.d (.str x), st1) => some ((signs x, none), st1)
  | some (.loc n, st1) => (match st1[n]? with
    | some (.lst xs) => some ((xs, some n), st1)
    | _ => none)
  | _ => none
theorem srcY {M L : List Addr} {a : Addr} {xs : List D} {H : Hp} (h : VD K (M ++ L) H (.ref a) (.frl xs)) : SrcOk K M L (Itl K a) xs H none := fun M' H' f hM => by
  have h2 : VD K (M' ++ L) H' (.ref a) (.frl xs) := h.mv (mv_of f (fun _ m => List.mem_append_right _ m) fun b m => by
    rcases List.mem_append.mp m with m | m
    · exact (hM b m).imp (fun q => List.mem_append_left _ q) id
    · exact .inl (List.mem_append_right _ m))
  cases h2 with
  | frl h1 r => exact vw_list h1.sq r
theorem srcL {M L : List Addr} {a : Addr} {xs : List D} {H : Hp} (h : VD K (M ++ L) H (.ref a) (.lst xs)) : SrcOk K M L (Itl K a) xs H none := fun M' H' f hM => by
  have h2 : VD K (M' ++ L) H' (.ref a) (.lst xs) := h.mv (mv_of f (fun _ m => List.mem_append_right _ m) fun b m => by
    rcases List.mem_append.mp m with m | m
    · exact (hM b m).imp (fun q => List.mem_append_left _ q) id
    · exact .inl (List.mem_append_right _ m))
  cases h2 with
  | lst h1 h2 r => exact vw_list (.inl (.inl h2)) r
theorem srcT {M L : List Addr} {a : Addr} {xs : List D} {H : Hp} (h : VD K (M ++ L) H (.ref a) (.tup xs)) : SrcOk K M L (Itt K a) xs H none := fun M' H' f hM => by
  have h2 : VD K (M' ++ L) H' (.ref a) (.tup xs) := h.mv (mv_of f (fun _ m => List.mem_append_right _ m) fun b m => by
    rcases List.mem_append.mp m with m | m
    · exact (hM b m).imp (fun q => List.mem_append_left _ q) id
    · exact .inl (List.mem_append_right _ m))
  cases h2 with
  | tup h1 h2 r => exact vw_tup (.inl (.inl h2)) r
theorem di_seq {ge : GE} (h : DE X e ge) : DI X tg e (gIter ge) := pi_imp (pi_or (pi_list h) (pi_or (pi_tup h) (pi_str h))) fun σ H Q hq => by
  obtain ⟨M, L, env, st, xs, lk, st', er, sr, hg, q⟩ := hq
  unfold gIter at hg
  split at hg
  · rename_i xs st1 e1
    cases hg
    refine .inl ⟨M, L, env, st, _, _, er, sr, e1, fun v H1 f1 s1 r1 => ?_⟩
    cases (show VD X.K (M ++ L) H1 v (.lst _) from r1) with
    | lst h1 h2 r => exact ⟨_, rfl, ⟨_, .inl (.inl h2)⟩, q _ H1 f1 s1 (srcL (.lst h1 h2 r))⟩
  · rename_i xs st1 e1
    cases hg
    refine .inl ⟨M, L, env, st, _, _, er, sr, e1, fun v H1 f1 s1 r1 => ?_⟩
    cases (show VD X.K (M ++ L) H1 v (.lst _) from r1.t) with
    | lst h1 h2 r => exact ⟨_, rfl, ⟨_, .inl (.inl h2)⟩, q _ H1 f1 s1 (srcL (.lst h1 h2 r))⟩
  · rename_i xs st1 e1
    cases hg
    refine .inr (.inl ⟨M, L, env, st, _, _, er, sr, e1, fun v H1 f1 s1 r1 => ?_⟩)
    cases (show VD X.K (M ++ L) H1 v (.tup _) from r1) with
    | tup h1 h2 r => exact ⟨_, rfl, ⟨_, .inl (.inl h2)⟩, q _ H1 f1 s1 (srcT (.tup h1 h2 r))⟩
  · rename_i xs st1 e1
    cases hg
    refine .inl ⟨M, L, env, st, _, _, er, sr, e1, fun v H1 f1 s1 r1 => ?_⟩
    cases (show VD X.K (M ++ L) H1 v (.frl _) from r1) with
    | frl h1 r => exact ⟨_, rfl, ⟨_, h1.sq⟩, q _ H1 f1 s1 (srcY (.frl h1 r))⟩
  · rename_i x st1 e1
    cases hg
    refine .inr (.inr ⟨M, L, env, st, _, _, er, sr, e1, fun v H1 f1 s1 r1 => ?_⟩)
    cases (show VD X.K (M ++ L) H1 v (.str _) from r1)
    exact ⟨x, rfl, q _ H1 f1 s1 fun M' H' _ _ => vw_str⟩
  · rename_i n st1 e1
    split at hg
    · rename_i xs e2
      cases hg
      refine .inl ⟨M, L, env, st, _, _, er, sr, e1, fun v H1 f1 s1 r1 => ?_⟩
      obtain ⟨a, h1, rfl⟩ := r1
      obtain ⟨vs, e3, r⟩ := s1.at_ n a _ h1 e2
      refine ⟨a, rfl, ⟨vs, .inl (.inl e3)⟩, q _ H1 f1 s1 ⟨a, h1, fun M' H' c => ?_⟩⟩
      obtain ⟨vs', e4, r'⟩ := c
      exact vw_list (.inl (.inl e4)) r'
    · cases hg
  · cases hg
def sm62 (j : Int) : Prop := -4611686018427387904 ≤ j ∧ j < 4611686018427387904
instance (j : Int) : Decidable (sm62 j) := inferInstanceAs (Decidable (_ ∧ _))
def rgD (lo : Int) (n : Nat) : List D := (List.range n).map fun i => .int (lo + (i : Nat))
theorem vw_range {lo : Int} {n : Nat} {S : List Addr} {H : Hp} : Vw K (Itr lo n) (rgD lo n) S H := fun i => by
  unfold rgD
  refine ⟨fun d e => ?_, fun e => ?_⟩
  · rw [List.getElem?_map] at e
    by_cases hi : i < n
    · rw [List.getElem?_range hi] at e
      cases e
      exact ⟨hi, fun x H' y => by obtain ⟨rfl, rfl⟩ := y; exact ⟨rfl, .int _⟩⟩
    · rw [List.getElem?_eq_none (by simpa using hi)] at e
      cases e
  · have := List.getElem?_eq_none_iff.mp e
    show n ≤ i
    simpa using this
def gRng1 (ga : GE) : GI := fun env st => match ga env st with
  | some (.d (.int j), st1) => if sm62 j then some ((rgD 0 j.toNat, none), st1) else none
  | _ => none
def gRng2 (ga gb : GE) : GI := fun env st => match ga env st with
  | some (.d (.int i), st1) => (match gb env st1 with
    | some (.d (.int j), st2) => if sm62 i ∧ sm62 j then some ((rgD i (j - i).toNat, none), st2) else none
    | _ => none)
  | _ => none
section
variable {a b : Expr} {ga gb : GE} {p : Pos}
theorem di_range1 (hg : Gl X "range") (hm : X.mg "range" = none) (ha : DE X a ga) (hs : starEach [a] X.env = [(false, eval a X.env)] := by rfl) : DI X tg (.Call (.Name "range" p) [a] [] pos) (gRng1 ga) :=
  pi_imp (pi_range1 hg hm (pa_cons ha pa_nil hs) hs) fun σ H Q hq => by
    obtain ⟨M, L, env, st, xs, lk, st', er, sr, h, q⟩ := hq
    unfold gRng1 at h
    split at h
    · rename_i j st1 e1
      split at h
      · rename_i hj
        cases h
        refine ⟨M, L, env, st, _, _, er, sr, e1, fun v H1 f1 s1 r1 => ?_⟩
        cases (show VD X.K (M ++ L) H1 v (.int j) from r1)
        exact ⟨j, rfl, hj.1, hj.2, q _ H1 f1 s1 fun M' H' _ _ => vw_range⟩
      · cases h
    · cases h
theorem di_range2 (hg : Gl X "range") (hm : X.mg "range" = none) (ha : DE X a ga) (hb : DE X b gb) (hs : starEach [a, b] X.env = [(false, eval a X.env), (false, eval b X.env)] := by rfl) (hs2 : starEach [b] X.env = [(false, eval b X.env)] := by rfl) : DI X tg (.Call (.Name "range" p) [a, b] [] pos) (gRng2 ga gb) :=
  pi_imp (pi_range2 hg hm (pa_cons ha (pa_cons hb pa_nil hs2) (by rw [hs, hs2])) hs hs2) fun σ H Q hq => by
    obtain ⟨M, L, env, st, xs, lk, st', er, sr, h, q⟩ := hq
    unfold gRng2 at h
    split at h
    · rename_i i st1 e1
      split at h
      · rename_i j st2 e2
        split at h
        · rename_i hj
          cases h
          refine ⟨M, L, env, st, _, _, er, sr, e1, fun v H1 f1 s1 r1 => ?_⟩
          cases (show VD X.K (M ++ L) H1 v (.int i) from r1)
          refine ⟨M, L, env, st1, _, _, er.fr f1, s1, e2, fun v H2 f2 s2 r2 => ?_⟩
          cases (show VD X.K (M ++ L) H2 v (.int j) from r2)
          exact ⟨i, j, rfl, ⟨hj.1.1, hj.1.2, hj.2.1, hj.2.2⟩, q _ H2 (f1.trans f2) s2 fun M' H' _ _ => vw_range⟩
        · cases h
      · cases h
    · cases h
end
end

/-! ### for -/
/-- the source is as it was -/
def lkOk (xs : List D) (st : Sto) : Option Nat → Prop
  | none => True
  | some n => st[n]? = some (.lst xs)
/-- places that go become trees -/
def clr (n : Nat) (st : Sto) (env : Env) : Env := env.map fun
  | some (.loc m) => if m < n then some (.loc m) else (cellV st[m]?).map .d
  | x => x
open Classical in
noncomputable def forGo (lk : Option Nat) (src : List D) (tg : GG) (body : GS) (n : Nat) : List D → Env → Sto → Option Out
  | [], env, st => if lkOk src st lk then some (.nx env st) else none
  | x :: xs, env, st => if lkOk src st lk then (match tg x env with
    | some env1 => (match body env1 st with
      | some (.nx env2 st2) => forGo lk src tg body n xs (clr n st2 env2) (st2.take n)
      | some (.ct env2 st2) => forGo lk src tg body n xs (clr n st2 env2) (st2.take n)
      | some (.bk env2 st2) => some (.nx (clr n st2 env2) (st2.take n))
      | some (.rt r st2) => some (.rt r st2)
      | none => none)
    | none => none) else none
noncomputable def gFor (it : GI) (tg : GG) (body : GS) : GS := fun env st => match it env st with
  | some ((xs, lk), st1) => forGo lk xs tg body st1.length xs env st1
  | none => none
section
variable {X : Cx} {K : PySem.W.Frag} {tg iter : Expr} {body : List Stmt} {it : GI} {g : GG} {js : List Nat} {gb : GS} {pos : Pos} {M L Y : List Addr} {H : Hp} {σ : L2.St} {env : Env}
theorem ER.clr {H0 : Hp} {st0 st2 : Sto} (h : ER K M (L ++ Y) H σ env) (s0 : SR K M L H0 st0) (s : SR K M (L ++ Y) H st2) (hY : ∀ a ∈ Y, H0 a = none) : ER K M L H σ (clr L.length st2 env) := by
  refine ⟨by unfold DL.clr; rw [List.length_map]; exact h.len, fun i r e => ?_⟩
  unfold DL.clr at e
  rw [List.getElem?_map] at e
  cases e1 : env[i]? with
  | none => rw [e1] at e; cases e
  | some o =>
    rw [e1] at e
    cases o with
    | none => cases e
    | some r' =>
      obtain ⟨v, e2, q⟩ := h.at_ i r' e1
      cases r' with
      | d x =>
        cases e
        exact ⟨v, e2, VD.mv (mv_sub fun a m => mem_cut m) q⟩
      | fr x => exact q.elim
      | loc m =>
        obtain ⟨a, h1, rfl⟩ := q
        simp only [Option.map_some, Option.some.injEq] at e
        split at e
        · rename_i hm
          cases e
          exact ⟨_, e2, a, by rw [List.getElem?_append_left hm] at h1; exact h1, rfl⟩
        · rename_i hm
          obtain ⟨c, e3, e4⟩ := Option.map_eq_some_iff.mp e
          cases e4
          obtain ⟨e5, hl⟩ := cellV_some e3
          have aY : a ∈ Y := by
            rw [List.getElem?_append_right (by omega)] at h1
            exact List.mem_of_getElem? h1
          have nL : a ∉ M ++ L := fun m => (List.mem_append.mp m).elim (fun m => by
            obtain ⟨o, e⟩ := s0.hid a m
            rw [hY a aY] at e; cases e) fun m => (List.nodup_append.mp s.nd).2.2 a m a aY rfl
          exact ⟨_, e2, CellAt.tree ((s.at_ m a c h1 e5).mv (mv_sub fun a m => mem_cut m) fun o e => e) hl nL⟩
theorem src_go {J : It} {xs : List D} {lk : Option Nat} {st : Sto} {H1 : Hp} {M' : List Addr} (h : SrcOk K M L J xs H lk) (f : Fr L H H1) (sr : SR K M' L H1 st) (ok : lkOk xs st lk) (hM : ∀ a ∈ M', a ∈ M ∨ H a = none) : Vw K J xs (M' ++ L) H1 := by
  cases lk with
  | none => exact h M' H1 f hM
  | some n =>
    obtain ⟨a, h1, h2⟩ := h
    exact h2 M' H1 (sr.at_ n a _ h1 ok)
theorem for_of : ∀ Dn σ H, tsOf K (gFor it g gb) Dn σ H → tFor (tiOf K it) (tgOf K g js) (tsOf K gb) Dn σ H := by
  intro Dn σ H h
  obtain ⟨M, L, env, st, o, er, sr, hg, q⟩ := h
  unfold gFor at hg
  split at hg
  · rename_i xs lk st1 e1
    refine ⟨M, L, env, st, xs, lk, st1, er, sr, e1, fun J H1 f1 s1 src => ?_⟩
    refine ⟨fun i m σ' H' => m = xs.length - i ∧ i ≤ xs.length ∧ Fr L H1 H' ∧ ∃ env' st', ER K M L H' σ' env' ∧ SR K M L H' st' ∧ forGo lk xs g gb st1.length (xs.drop i) env' st' = some o, ⟨_, rfl, Nat.zero_le _, Fr.refl _ _, env, st1, er.fr f1, s1, hg⟩, ?_⟩
    rintro i m σ' H' ⟨rfl, hi, f2, env', st', er', sr', hg'⟩
    have hlen : st'.length = st1.length := sr'.len.symm.trans s1.len
    have q' := q.here sr sr' (f1.trans f2)
    by_cases hlt : i < xs.length
    · rw [List.drop_eq_getElem_cons hlt] at hg'
      unfold forGo at hg'
      split at hg'
      · rename_i ok
        have vw := src_go src f2 sr' ok (fun a m => .inl m)
        obtain ⟨go, yl⟩ := (vw i).1 _ (List.getElem?_eq_getElem hlt)
        split at hg'
        · rename_i env1 e2
          refine .inr ⟨go, fun σ2 H2 => Fr L H1 H2 ∧ ∃ env' st', ER K M L H2 σ2 env' ∧ SR K M L H2 st' ∧ forGo lk xs g gb st1.length (xs.drop (i + 1)) env' st' = some o, fun σ2 H2 n2 => ⟨_, ?_, rfl, hlt, n2⟩, fun x H2 y => ?_⟩
          · show xs.length - (i + 1) < xs.length - i
            omega
          · obtain ⟨rfl, hv⟩ := yl x H2 y
            have srH := sr'
            refine ⟨M, L, env', _, env1, hv, er', e2, fun σ2 er2 _ => ?_⟩
            have cl : ∀ {Y : List Addr} {H3 : Hp} {σ3 : L2.St} {env2 : Env} {st2 : Sto}, ER K M (L ++ Y) H3 σ3 env2 → SR K M (L ++ Y) H3 st2 → (∀ a ∈ Y, H2 a = none) → ER K M L H3 σ3 (clr st1.length st2 env2) ∧ SR K M L H3 (st2.take st1.length) := fun e3 s3 hY => by
              have l1 : L.length = st1.length := s1.len
              refine ⟨by rw [← l1]; exact e3.clr sr' s3 hY, ?_⟩
              rw [← hlen]
              exact sr'.cut s3
            split at hg'
            · rename_i env2 st2 e3
              refine ⟨M, L, env1, st', _, er2, sr', e3, fun σ3 H3 Y er3 sr3 f3 hY => ?_⟩
              obtain ⟨c1, c2⟩ := cl er3 sr3 hY
              exact ⟨f2.trans f3, _, _, c1, c2, hg'⟩
            · rename_i env2 st2 e3
              refine ⟨M, L, env1, st', _, er2, sr', e3, fun σ3 H3 Y er3 sr3 f3 hY => ?_⟩
              obtain ⟨c1, c2⟩ := cl er3 sr3 hY
              exact ⟨f2.trans f3, _, _, c1, c2, hg'⟩
            · rename_i env2 st2 e3
              cases hg'
              refine ⟨M, L, env1, st', _, er2, sr', e3, fun σ3 H3 Y er3 sr3 f3 hY => ?_⟩
              obtain ⟨c1, c2⟩ := cl er3 sr3 hY
              exact NPost.go q' c1 c2 f3
            · rename_i r st2 e3
              cases hg'
              exact ⟨M, L, env1, st', _, er2, sr', e3, q'⟩
            · cases hg'
        · cases hg'
      · cases hg'
    · have e : i = xs.length := by omega
      subst e
      rw [List.drop_length] at hg'
      unfold forGo at hg'
      split at hg'
      · rename_i ok
        cases hg'
        have vw := src_go src f2 sr' ok (fun a m => .inl m)
        exact .inl ⟨(vw xs.length).2 (List.getElem?_eq_none (Nat.le_refl _)), NPost.go q' er' sr' (Fr.refl _ _)⟩
      · cases hg'
  · cases hg
theorem ds_for (hp : PassesOwn (model X.prog X.w) X.A X.env X.xe) (hc : X.calm = true) (hi : DI X tg iter it) (hg : DG X tg g js) (hb : DSs X body gb) (hs : ∀ x, foldedSetIterable iter X.env x = pure x := by intro _; rfl) :
    DS X (.For tg iter body [] pos) (gFor it g gb) := ps_imp (ps_for hp hc hi hg hb hs) for_of
end

/-! ### while -/
def whileGo (c : GT) (body : GS) (n : Nat) : Nat → Env → Sto → Option Out
  | 0, _, _ => none
  | k + 1, env, st => match c env st with
    | some (true, st1) => (match body env st1 with
      | some (.nx env2 st2) => whileGo c body n k (clr n st2 env2) (st2.take n)
      | some (.ct env2 st2) => whileGo c body n k (clr n st2 env2) (st2.take n)
      | some (.bk env2 st2) => some (.nx (clr n st2 env2) (st2.take n))
      | some (.rt r st2) => some (.rt r st2)
      | none => none)
    | some (false, st1) => some (.nx env st1)
    | none => none
theorem whileGo_mono {c : GT} {body : GS} {n : Nat} {o : Out} : ∀ {k : Nat} {env : Env} {st : Sto}, whileGo c body n k env st = some o → ∀ {j : Nat}, k ≤ j → whileGo c body n j env st = some o
  | 0, _, _, h, _, _ => by cases h
  | k + 1, env, st, h, 0, hj => by omega
  | k + 1, env, st, h, j + 1, hj => by
    unfold whileGo at h ⊢
    split
    · rename_i st1 e1
      rw [e1] at h
      dsimp only at h
      split
      · rename_i env2 st2 e2
        rw [e2] at h
        exact whileGo_mono h (by omega)
      · rename_i env2 st2 e2
        rw [e2] at h
        exact whileGo_mono h (by omega)
      · rename_i env2 st2 e2
        rw [e2] at h
        exact h
      · rename_i r st2 e2
        rw [e2] at h
        exact h
      · rename_i e2
        rw [e2] at h
        cases h
    · rename_i st1 e1
      rw [e1] at h
      exact h
    · rename_i e1
      rw [e1] at h
      cases h
open Classical in
noncomputable def gWhile (c : GT) (body : GS) : GS := fun env st => if h : ∃ k o, whileGo c body st.length k env st = some o then some h.choose_spec.choose else none
theorem gWhile_of {c : GT} {body : GS} {env : Env} {st : Sto} {o : Out} (k : Nat) (h : whileGo c body st.length k env st = some o) : gWhile c body env st = some o := by
  have hx : ∃ k o, whileGo c body st.length k env st = some o := ⟨k, o, h⟩
  unfold gWhile
  rw [dif_pos hx]
  have h2 := hx.choose_spec.choose_spec
  have h3 := whileGo_mono h (Nat.le_max_left k hx.choose)
  have h4 := whileGo_mono h2 (Nat.le_max_right k hx.choose)
  rw [h3] at h4
  exact h4.symm
section
variable {X : Cx} {K : PySem.W.Frag} {c : Expr} {body : List Stmt} {gc : GT} {gb : GS} {pos : Pos}
theorem while_of : ∀ Dn σ H, tsOf K (gWhile gc gb) Dn σ H → tWhile (ttOf K gc) (tsOf K gb) Dn σ H := by
  intro Dn σ H h
  obtain ⟨M, L, env, st, o, er, sr, hg, q⟩ := h
  unfold gWhile at hg
  split at hg
  · rename_i hx
    have hk := hx.choose_spec.choose_spec
    cases hg
    generalize hx.choose_spec.choose = o at hk q
    refine ⟨fun m σ' H' => Fr L H H' ∧ ∃ env' st', ER K M L H' σ' env' ∧ SR K M L H' st' ∧ whileGo gc gb st.length m env' st' = some o, ⟨_, Fr.refl _ _, env, st, er, sr, hk⟩, ?_⟩
    rintro m σ' H' ⟨f, env', st', er', sr', h'⟩
    have hlen : st'.length = st.length := sr'.len.symm.trans sr.len
    cases m with
    | zero => cases h'
    | succ m =>
      unfold whileGo at h'
      split at h'
      · rename_i st1 e1
        refine ⟨M, L, env', st', _, _, er', sr', e1, fun H1 f1 s1 => ?_⟩
        try dsimp only
        rw [if_pos rfl]
        have er1 := er'.fr f1
        have q' := q.here sr s1 (f.trans f1)
        have hlen1 : st1.length = st.length := s1.len.symm.trans sr.len
        refine ⟨fun σ2 H2 => Fr L H H2 ∧ ∃ env' st', ER K M L H2 σ2 env' ∧ SR K M L H2 st' ∧ whileGo gc gb st.length m env' st' = some o, fun σ2 H2 n2 => ⟨m, Nat.lt_succ_self _, n2⟩, ?_⟩
        have cl : ∀ {Y : List Addr} {H3 : Hp} {σ3 : L2.St} {env2 : Env} {st2 : Sto}, ER K M (L ++ Y) H3 σ3 env2 → SR K M (L ++ Y) H3 st2 → (∀ a ∈ Y, H1 a = none) → ER K M L H3 σ3 (clr st.length st2 env2) ∧ SR K M L H3 (st2.take st.length) := fun e3 s3 hY => by
          have l1 : L.length = st.length := sr.len
          refine ⟨by rw [← l1]; exact e3.clr s1 s3 hY, ?_⟩
          rw [← hlen1]
          exact s1.cut s3
        split at h'
        · rename_i env2 st2 e3
          refine ⟨M, L, env', st1, _, er1, s1, e3, fun σ3 H3 Y er3 sr3 f3 hY => ?_⟩
          obtain ⟨c1, c2⟩ := cl er3 sr3 hY
          exact ⟨(f.trans f1).trans f3, _, _, c1, c2, h'⟩
        · rename_i env2 st2 e3
          refine ⟨M, L, env', st1, _, er1, s1, e3, fun σ3 H3 Y er3 sr3 f3 hY => ?_⟩
          obtain ⟨c1, c2⟩ := cl er3 sr3 hY
          exact ⟨(f.trans f1).trans f3, _, _, c1, c2, h'⟩
        · rename_i env2 st2 e3
          cases h'
          refine ⟨M, L, env', st1, _, er1, s1, e3, fun σ3 H3 Y er3 sr3 f3 hY => ?_⟩
          obtain ⟨c1, c2⟩ := cl er3 sr3 hY
          exact NPost.go q' c1 c2 f3
        · rename_i r st2 e3
          cases h'
          exact ⟨M, L, env', st1, _, er1, s1, e3, q'⟩
        · cases h'
      · rename_i st1 e1
        cases h'
        refine ⟨M, L, env', st', _, _, er', sr', e1, fun H1 f1 s1 => ?_⟩
        try dsimp only
        rw [if_neg Bool.false_ne_true]
        exact NPost.go q (er'.fr f1) s1 (f.trans f1)
      · cases h'
  · cases hg
theorem ds_while (hp : PassesOwn (model X.prog X.w) X.A X.env X.xe) (hc : DT X c gc) (hb : DSs X body gb) : DS X (.While c body [] pos) (gWhile gc gb) := ps_imp (ps_while hp hc hb) while_of
end
end DL

set_option Elab.async false
set_option linter.all false
set_option maxRecDepth 100000
set_option maxHeartbeats 4000000
namespace DL
open PySem PySem.Spec PyProof.Rows L2

/-! ### comprehensions -/
def wipeE (env : Env) : List Nat → Env
  | [] => env
  | v :: vs => (wipeE env vs).set v none
def gYes : GT := fun _ st => some (true, st)
def DTs (X : Cx) (ifs : List Expr) (g : GT) : Prop := PTs X ifs (ttOf X.K g)
def valT : R → Option D
  | .d x => some x
  | .fr x => some x
  | .loc _ => none
open Classical in
noncomputable def compGo (lk : Option Nat) (src : List D) (tg : GG) (c : GT) (e : GE) (env : Env) : List D → Sto → Option (List D × Sto)
  | [], st => if lkOk src st lk then some ([], st) else none
  | x :: xs, st => if lkOk src st lk then (match tg x env with
    | some env1 => (match c env1 st with
      | some (true, st1) => (match e env1 st1 with
        | some (r, st2) => (match valT r with
          | some y => (match compGo lk src tg c e env xs st2 with
            | some (ys, st3) => some (y :: ys, st3)
            | none => none)
          | none => none)
        | none => none)
      | some (false, st1) => compGo lk src tg c e env xs st1
      | none => none)
    | none => none) else none
noncomputable def gComp (it : GI) (own : List Nat) (tg : GG) (c : GT) (e : GE) : GE := fun env st => match it env st with
  | some ((xs, lk), st1) => if xs.length ≤ sizeLine then (match compGo lk xs tg c e (wipeE env own) xs st1 with
    | some (ys, st2) => some (.fr (.lst ys), st2)
    | none => none) else none
  | none => none
section
variable {X : Cx} {K : PySem.W.Frag} {M L : List Addr} {H : Hp} {σ : L2.St} {env : Env}
theorem ER.wipe (h : ER K M L H σ env) : ∀ vs : List Nat, ER K M L H (L2.wipe σ vs) (wipeE env vs)
  | [] => h
  | v :: vs => by
    have q := ER.wipe h vs
    refine ⟨by unfold L2.wipe wipeE; rw [List.length_set, List.length_set]; exact q.len, fun i r e => ?_⟩
    unfold wipeE at e
    unfold L2.wipe
    by_cases hv : v = i
    · subst hv
      rw [List.getElem?_set] at e
      rw [if_pos rfl] at e
      split at e <;> cases e
    · rw [List.getElem?_set_ne hv] at e ⊢
      exact q.at_ i r e
/-- some more that is not to be touched -/
theorem ER.hide {H0 : Hp} (h : ER K M L H0 σ env) (f : Fr L H0 H) {M' : List Addr} (hM : ∀ a ∈ M', a ∈ M ∨ H0 a = none) : ER K M' L H σ env := by
  refine ⟨h.len, fun i r e => ?_⟩
  obtain ⟨v, e1, q⟩ := h.at_ i r e
  refine ⟨v, e1, ?_⟩
  cases r with
  | d x =>
    refine VD.mv (mv_of f (fun _ m => List.mem_append_right _ m) fun b m => ?_) q
    rcases List.mem_append.mp m with m | m
    · exact (hM b m).imp (fun z => List.mem_append_left _ z) id
    · exact .inl (List.mem_append_right _ m)
  | loc n => exact q
  | fr x => exact q
theorem dts_nil : DTs X [] gYes := ⟨fun pins s σ H Q I h => by
  obtain ⟨M, L, env, st, b, st', er, sr, hg, q⟩ := h
  cases hg
  exact pts_nil.run pins s σ H Q I (show tYes σ H Q from q H (Fr.refl _ _) sr)⟩
theorem dts_one {c : Expr} {g : GT} (h : DT X c g) : DTs X [c] g := pts_one h
end
section
variable {X : Cx} {K : PySem.W.Frag} {it : GI} {g : GG} {js own : List Nat} {gc : GT} {ge : GE}
theorem comp_of (hj : ∀ j ∈ js, j ∈ own) : ∀ σ H Q, teOf K (gComp it own g gc ge) σ H Q → tLc (tiOf K it) (tgOf K g js) (ttOf K gc) (teOf K ge) own σ H Q := by
  intro σ H Q h
  obtain ⟨M, L, env, st, o, stE, er, sr, hg, q⟩ := h
  unfold gComp at hg
  split at hg
  · rename_i xs lk st1 e1
    split at hg
    · rename_i hz
      split at hg
      · rename_i ys st2 e2
        cases hg
        refine ⟨M, L, env, st, xs, lk, st1, er, sr, e1, fun J H1 f1 s1 src => ?_⟩
        intro Dl hD
        have hDL : Dl ∉ M ++ L := s1.fresh hD
        have hM : ∀ a ∈ M ++ [Dl], a ∈ M ∨ H1 a = none := fun a m => (List.mem_append.mp m).imp id fun m => by rw [List.mem_singleton.mp m]; exact hD
        have f0 : Fr L H1 (upd H1 Dl (.lst [])) := (Ext.new hD).fr
        have s0 : SR K (M ++ [Dl]) L (upd H1 Dl (.lst [])) st1 := by
          have s2 := s1.ext (Ext.new (o := .lst []) hD)
          refine ⟨s2.nd, s2.len, fun n a c h1 h2 => ?_, fun a m => ?_⟩
          · refine (s1.at_ n a c h1 h2).mv (mv_of (L := M ++ L) (Ext.new hD).fr (fun _ m => m) fun b m => ?_) fun o e => Ext.new hD _ _ e
            rcases List.mem_append.mp m with m | m
            · exact (hM b m).imp (fun z => List.mem_append_left _ z) id
            · exact .inl (List.mem_append_right _ m)
          · rcases List.mem_append.mp m with m | m
            · exact s2.hid a m
            · rw [List.mem_singleton.mp m]; exact ⟨_, upd_same⟩
        have erw := (er.fr f1).wipe own
        refine ⟨fun i m H' => m = xs.length - i ∧ i ≤ xs.length ∧ Fr L H1 H' ∧ ∃ st' acc done rest, SR K (M ++ [Dl]) L H' st' ∧ H' Dl = some (.lst acc) ∧ VDs K ((M ++ [Dl]) ++ L) H' acc done ∧ done.length ≤ i ∧ compGo lk xs g gc ge (wipeE env own) (xs.drop i) st' = some (rest, stE) ∧ done ++ rest = ys,
          ⟨_, rfl, Nat.zero_le _, f0, st1, [], [], ys, s0, upd_same, .nil, Nat.le_refl _, e2, rfl⟩, ?_⟩
        rintro i m H' ⟨rfl, hi, f2, st', acc, done, rest, sr', hacc, hv, hdl, hgo, hys⟩
        by_cases hlt : i < xs.length
        · rw [List.drop_eq_getElem_cons hlt] at hgo
          unfold compGo at hgo
          split at hgo
          · rename_i ok
            have vw := src_go src f2 sr' ok hM
            obtain ⟨go, yl⟩ := (vw i).1 _ (List.getElem?_eq_getElem hlt)
            split at hgo
            · rename_i env1 e3
              refine .inr ⟨go, fun H2 => Fr L H1 H2 ∧ ∃ st' acc done rest, SR K (M ++ [Dl]) L H2 st' ∧ H2 Dl = some (.lst acc) ∧ VDs K ((M ++ [Dl]) ++ L) H2 acc done ∧ done.length ≤ i + 1 ∧ compGo lk xs g gc ge (wipeE env own) (xs.drop (i + 1)) st' = some (rest, stE) ∧ done ++ rest = ys, fun H2 n2 => ⟨_, ?_, rfl, hlt, n2⟩, fun x H2 y => ?_⟩
              · show xs.length - (i + 1) < xs.length - i
                omega
              · obtain ⟨rfl, hx⟩ := yl x H2 y
                have erh : ER K (M ++ [Dl]) L H2 (L2.wipe σ own) (wipeE env own) := erw.hide f2 hM
                refine ⟨M ++ [Dl], L, _, _, env1, hx, erh, e3, fun σ2 er2 sb => ⟨?_, ?_⟩⟩
                · rw [wipe_same sb hj]
                  have : SameBut own σ (L2.wipe σ own) := ⟨wipe_length _ _, fun i hi => by rw [wipe_get, if_neg hi]⟩
                  exact wipe_same this fun j m => m
                · split at hgo
                  · rename_i st3 e4
                    refine ⟨M ++ [Dl], L, env1, st', _, _, er2, sr', e4, fun H3 f3 s3 => ?_⟩
                    try dsimp only
                    rw [if_pos rfl]
                    split at hgo
                    · rename_i r st4 e5
                      refine ⟨M ++ [Dl], L, env1, st3, _, _, er2.fr f3, s3, e5, fun v H4 f4 s4 r4 => ?_⟩
                      split at hgo
                      · rename_i y e6
                        split at hgo
                        · rename_i ys' st5 e7
                          simp only [Option.some.injEq, Prod.mk.injEq] at hgo
                          obtain ⟨rfl, rfl⟩ := hgo
                          have hvy : VD K ((M ++ [Dl]) ++ L) H4 v y := by
                            have h2 := r4.t
                            cases r with
                            | d x => cases e6; exact h2
                            | fr x => cases e6; exact h2
                            | loc n => cases e6
                          have nL : Dl ∉ L := fun m => hDL (List.mem_append_right _ m)
                          have hacc4 : H4 Dl = some (.lst acc) := (f3.trans f4) _ _ nL hacc
                          have hlen := hv.length
                          have hsz : acc.length < sizeLine := by
                            rw [hlen]
                            omega
                          refine ⟨acc, hacc4, hsz, ?_⟩
                          have f5 : Fr ((M ++ [Dl]) ++ L) H4 (upd H4 Dl (.lst (acc ++ [v]))) := fun a o n e => by
                            rw [upd_ne fun z => n (by rw [z]; exact List.mem_append_left _ (List.mem_append_right _ (List.mem_singleton.mpr rfl)))]
                            exact e
                          have mv5 : Mv ((M ++ [Dl]) ++ L) H4 ((M ++ [Dl]) ++ L) (upd H4 Dl (.lst (acc ++ [v]))) := f5.mv
                          refine ⟨fun a o n e => ?_, st4, acc ++ [v], done ++ [y], ys', ⟨s4.nd, s4.len, fun n a c h1 h2 => (s4.at_ n a c h1 h2).mv mv5 fun o e => ?_, fun a m => ?_⟩, upd_same, (VDs.append ((hv.mv (f3.trans f4).mvM)) (.cons hvy .nil)).mv mv5, ?_, e7, by simpa using hys⟩
                          · rw [upd_ne (ne_of_none e hD)]
                            exact ((f2.trans f3).trans f4) a o n e
                          · rw [upd_ne fun z => nL (by rw [← z]; exact List.mem_of_getElem? h1)]
                            exact e
                          · by_cases z : a = Dl
                            · rw [z]; exact ⟨_, upd_same⟩
                            · rw [upd_ne z]; exact s4.hid a m
                          · simp only [List.length_append, List.length_singleton]
                            omega
                        · cases hgo
                      · cases hgo
                    · cases hgo
                  · rename_i st3 e4
                    refine ⟨M ++ [Dl], L, env1, st', _, _, er2, sr', e4, fun H3 f3 s3 => ?_⟩
                    try dsimp only
                    rw [if_neg Bool.false_ne_true]
                    have nL : Dl ∉ L := fun m => hDL (List.mem_append_right _ m)
                    exact ⟨f2.trans f3, st3, acc, done, rest, s3, f3 _ _ nL hacc, hv.mv f3.mvM, by omega, hgo, hys⟩
                  · cases hgo
            · cases hgo
          · cases hgo
        · have e : i = xs.length := by omega
          subst e
          rw [List.drop_length] at hgo
          unfold compGo at hgo
          split at hgo
          · rename_i ok
            cases hgo
            rw [List.append_nil] at hys
            subst hys
            have vw := src_go src f2 sr' ok hM
            refine .inl ⟨(vw xs.length).2 (List.getElem?_eq_none (Nat.le_refl _)), ?_⟩
            have nL : Dl ∉ L := fun m => hDL (List.mem_append_right _ m)
            have nM : Dl ∉ M := fun m => hDL (List.mem_append_left _ m)
            have sM : SR K M L H' stE := ⟨sr'.nd, sr'.len, fun n a c h1 h2 => (sr'.at_ n a c h1 h2).mv (mv_sub fun a m => by
              rcases List.mem_append.mp m with m | m
              · exact List.mem_append_left _ (List.mem_append_left _ m)
              · exact List.mem_append_right _ m) fun o e => e, fun a m => sr'.hid a (List.mem_append_left _ m)⟩
            refine q _ H' (f1.trans f2) sM ⟨Dl, rfl, f1.back sr s1 hD, nM, rfl, sM.one nL (S := (M ++ [Dl]) ++ L) (fun a m => ?_) ⟨acc, hacc, hv⟩ sr'.at_⟩
            rcases List.mem_append.mp m with m | m
            · exact List.mem_append_left _ (List.mem_append_left _ m)
            · rcases List.mem_append.mp m with m | m
              · exact List.mem_append_right _ m
              · exact List.mem_append_left _ (List.mem_append_right _ m)
          · cases hgo
      · cases hg
    · cases hg
  · cases hg
theorem de_comp {elt tg iter : Expr} {ifs : List Expr} {scope : Scope} {ow : List (Str × Nat)} {pos : Pos} (hc : X.calm = true) (hN : X.N.Nodup) (hi : DI X tg iter it) (ok : BlkOk X.N X.env.scope scope ow)
    (hg : ∀ (s : Shared) (H : Hp) (C : Addr) (cl : List (Str × Addr)) (fp : List Addr), DG (X.blk s H scope (compEnvC scope cl C X.env) fp) tg g js) (ht : ∀ (s : Shared) (H : Hp) (C : Addr) (cl : List (Str × Addr)) (fp : List Addr), DTs (X.blk s H scope (compEnvC scope cl C X.env) fp) ifs gc)
    (he : ∀ (s : Shared) (H : Hp) (C : Addr) (cl : List (Str × Addr)) (fp : List Addr), DE (X.blk s H scope (compEnvC scope cl C X.env) fp) elt ge) (ho : ow.map (·.2) = own) (hj : ∀ j ∈ js, j ∈ own) (hs : ∀ x, foldedSetIterable iter X.env x = pure x := by intro _; rfl) :
    DE X (.ListComp elt [⟨tg, iter, ifs, 0⟩] scope pos) (gComp it own g gc ge) := by
  subst ho
  exact pe_imp (pe_lc (g := tgOf X.K g js) (tt := ttOf X.K gc) (te := teOf X.K ge) hc hN hi ok hg ht he hs) (comp_of hj)
section
variable {elt tg iter : Expr} {ifs : List Expr} {scope : Scope} {ow : List (Str × Nat)} {pos spos : Pos} {i : Nat} {y : Str} {py : Pos}
theorem ds_setC (hc : X.calm = true) (hN : X.N.Nodup) (hy : X.N[i]? = some y) (hyl : X.env.scope.names.lookup y = some .local)
    (hsw : swapsWith (.ListComp elt [⟨tg, iter, ifs, 0⟩] scope pos) (some (.Name y py)) spos.line X.env = pure true) (hi : DI X tg iter it) (ok : BlkOk X.N X.env.scope scope ow)
    (hg : ∀ (s : Shared) (H : Hp) (C : Addr) (cl : List (Str × Addr)) (fp : List Addr), DG (X.blk s H scope (compEnvC scope cl C X.env) fp) tg g js) (ht : ∀ (s : Shared) (H : Hp) (C : Addr) (cl : List (Str × Addr)) (fp : List Addr), DTs (X.blk s H scope (compEnvC scope cl C X.env) fp) ifs gc)
    (he : ∀ (s : Shared) (H : Hp) (C : Addr) (cl : List (Str × Addr)) (fp : List Addr), DE (X.blk s H scope (compEnvC scope cl C X.env) fp) elt ge) (ho : ow.map (·.2) = own) (hj : ∀ j ∈ js, j ∈ own) (hs : ∀ x, foldedSetIterable iter X.env x = pure x := by intro _; rfl) :
    DS X (.Assign [.Name y py] (.ListComp elt [⟨tg, iter, ifs, 0⟩] scope pos) spos) (gSet i (gComp it own g gc ge)) := by
  subst ho
  exact ps_imp (ps_setLc (g := tgOf X.K g js) (tt := ttOf X.K gc) (te := teOf X.K ge) hc hN hy hyl hsw hi ok hg ht he hs) (asg_of (comp_of hj))
theorem ds_setCM (hc : X.calm = true) (hN : X.N.Nodup) (hy : X.N[i]? = some y) (hyl : X.env.scope.names.lookup y = some .local)
    (hsw : swapsWith (.ListComp elt [⟨tg, iter, ifs, 0⟩] scope pos) (some (.Name y py)) spos.line X.env = pure true) (hi : DI X tg iter it) (ok : BlkOk X.N X.env.scope scope ow)
    (hg : ∀ (s : Shared) (H : Hp) (C : Addr) (cl : List (Str × Addr)) (fp : List Addr), DG (X.blk s H scope (compEnvC scope cl C X.env) fp) tg g js) (ht : ∀ (s : Shared) (H : Hp) (C : Addr) (cl : List (Str × Addr)) (fp : List Addr), DTs (X.blk s H scope (compEnvC scope cl C X.env) fp) ifs gc)
    (he : ∀ (s : Shared) (H : Hp) (C : Addr) (cl : List (Str × Addr)) (fp : List Addr), DE (X.blk s H scope (compEnvC scope cl C X.env) fp) elt ge) (ho : ow.map (·.2) = own) (hj : ∀ j ∈ js, j ∈ own) (hs : ∀ x, foldedSetIterable iter X.env x = pure x := by intro _; rfl) :
    DS X (.Assign [.Name y py] (.ListComp elt [⟨tg, iter, ifs, 0⟩] scope pos) spos) (gSetM i (gComp it own g gc ge)) := by
  subst ho
  exact ps_imp (ps_setLc (g := tgOf X.K g js) (tt := ttOf X.K gc) (te := teOf X.K ge) hc hN hy hyl hsw hi ok hg ht he hs) (asgM_of (comp_of hj))
end
end
end DL

set_option Elab.async false
set_option linter.all false
set_option maxRecDepth 100000
set_option maxHeartbeats 4000000
namespace DL
open PySem PySem.Spec PyProof.Rows L2

/-! ### arithmetic -/
def mulOk (i j : Int) : Prop := (-(2 ^ 64) < i ∧ i < 2 ^ 64) ∨ (-(2 ^ 64) < j ∧ j < 2 ^ 64) ∨ i.natAbs.log2 + j.natAbs.log2 < 1000000
instance (i j : Int) : Decidable (mulOk i j) := inferInstanceAs (Decidable (_ ∨ _ ∨ _))
theorem mulOk.ok {i j : Int} (h : mulOk i j) : IntMulOk i j := by
  rcases h with h | h | h
  · exact CMul.ok (.inl h)
  · exact CMul.ok (.inr h)
  · exact CMulW.ok h
def divOk (j : Int) : Prop := j ≠ 0 ∧ j.natAbs.log2 < 9000
instance (j : Int) : Decidable (divOk j) := inferInstanceAs (Decidable (_ ∧ _))
def powOk (i j : Int) : Prop := 0 ≤ j ∧ j ≤ 1000000 ∧ i.natAbs < 2 ^ 64
instance (i j : Int) : Decidable (powOk i j) := inferInstanceAs (Decidable (_ ∧ _ ∧ _))
def repOk (n : Nat) (k : Int) : Prop := sm62 k ∧ n * k.toNat ≤ sizeLine
instance (n : Nat) (k : Int) : Decidable (repOk n k) := inferInstanceAs (Decidable (_ ∧ _))
/-- a length that fits -/
def fits (n : Nat) : Prop := n ≤ sizeLine
instance (n : Nat) : Decidable (fits n) := inferInstanceAs (Decidable (_ ≤ _))

def opAdd : D → D → Option R
  | .int i, .int j => some (.d (.int (i + j)))
  | .str x, .str y => if fits (x.length + y.length) then some (.d (.str (x ++ y))) else none
  | .tup xs, .tup ys => if fits (xs.length + ys.length) then some (.d (.tup (xs ++ ys))) else none
  | .lst xs, .lst ys => if fits (xs.length + ys.length) then some (.fr (.lst (xs ++ ys))) else none
  | _, _ => none
def opSub : D → D → Option R
  | .int i, .int j => some (.d (.int (i - j)))
  | _, _ => none
def opMul : D → D → Option R
  | .int i, .int j => if mulOk i j then some (.d (.int (i * j))) else none
  | .lst xs, .int k => if repOk xs.length k then some (.fr (.lst (List.replicate k.toNat xs).flatten)) else none
  | _, _ => none
def opFdiv : D → D → Option R
  | .int i, .int j => if divOk j then some (.d (.int (i.fdiv j))) else none
  | _, _ => none
def opMod : D → D → Option R
  | .int i, .int j => if j ≠ 0 then some (.d (.int (i.fmod j))) else none
  | _, _ => none
def opPow : D → D → Option R
  | .int i, .int j => if powOk i j then some (.d (.int (i ^ j.toNat))) else none
  | _, _ => none
def opNeg : D → Option R
  | .int i => some (.d (.int (-i)))
  | _ => none
theorem VDs.nil_iff {K : PySem.W.Frag} {L : List Addr} {H : Hp} {vs : List V} {ds : List D} (h : VDs K L H vs ds) : vs = [] ↔ ds = [] := by
  cases h <;> simp
theorem roTup {K : PySem.W.Frag} {L : List Addr} {H : Hp} {p : Addr} {vs : List V} {ds : List D} (hL : ∀ a ∈ L, ∃ o, H a = some o) (h : H p = none) (r : VDs K L H vs ds) : RO K L H (upd H p (.tup vs)) (.ref p) (.d (.tup ds)) :=
  .tup (fun m => by obtain ⟨o, e⟩ := hL p m; rw [h] at e; cases e) upd_same (r.mv (mv_new h))
theorem roLst {K : PySem.W.Frag} {L : List Addr} {H : Hp} {p : Addr} {vs : List V} {ds : List D} (h : H p = none) (r : VDs K L H vs ds) : RO K L H (upd H p (.lst vs)) (.ref p) (.fr (.lst ds)) :=
  ⟨p, rfl, h, rfl, newLst h r⟩
section
variable {X : Cx} {K : PySem.W.Frag}
theorem os_int {g : Int → Int → Int} {C : Int → Int → Prop} {op : D → D → Option R} (ho : ∀ x y r, op x y = some r → ∃ i j, x = .int i ∧ y = .int j ∧ C i j ∧ r = .d (.int (g i j))) : OpS K (rI C fun i j => .int (g i j)) op := by
  intro L H x y dx dy res Q hx hy hL h q
  obtain ⟨i, j, rfl, rfl, hc, rfl⟩ := ho _ _ _ h
  exact ⟨i, j, hx, hy, hc, q _ H (Ext.refl H) (.int _)⟩
def rMulD : R2 := fun x y H Q => rI mulOk (fun i j => .int (i * j)) x y H Q ∨ rRep x y H Q
theorem op_mulD : OpR X (binaryOp .Mult) rMulD := OpR.or (opI fun _ _ _ _ _ _ _ hc q => mul_int q hc.ok) op_rep
theorem os_mul : OpS K rMulD opMul := by
  intro L H x y dx dy res Q hx hy hL h q
  unfold opMul at h
  split at h
  · rename_i i j
    split at h
    · rename_i hc
      cases h
      exact .inl ⟨i, j, hx, hy, hc, q _ H (Ext.refl H) (.int _)⟩
    · cases h
  · rename_i xs k
    split at h
    · rename_i hc
      cases h
      obtain ⟨a, vs, rfl, e, r⟩ := hx
      cases (show y = .int k from hy)
      have h1 := hc.1.1
      have h2 := hc.1.2
      refine .inr ⟨a, k, vs, rfl, rfl, e, by omega, by omega, by rw [r.length]; exact hc.2, fun p hp => ?_⟩
      exact q _ _ (Ext.new hp) (roLst hp (r.rep _))
    · cases h
  · cases h
def rAddD (K : PySem.W.Frag) : R2 := fun x y H Q => rI0 (fun i j => .int (i + j)) x y H Q ∨ ((∃ i j, x = .str i ∧ y = .str j ∧ i.length + j.length ≤ sizeLine ∧ Q (.str (i ++ j)) H) ∨ (rCatA K x y H Q ∨ rCat x y H Q))
theorem op_addD : OpR X (binaryOp .Add) (rAddD X.K) := OpR.or op_add (OpR.or op_add_str (OpR.or op_catA op_cat))
theorem os_add : OpS K (rAddD K) opAdd := by
  intro L H x y dx dy res Q hx hy hL h q
  unfold opAdd at h
  split at h
  · rename_i i j
    cases h
    exact .inl ⟨i, j, hx, hy, q _ H (Ext.refl H) (.int _)⟩
  · rename_i a b
    split at h
    · rename_i hc
      cases h
      exact .inr (.inl ⟨a, b, hx, hy, hc, q _ H (Ext.refl H) (.str _)⟩)
    · cases h
  · rename_i xs ys
    split at h
    · rename_i hc
      cases h
      obtain ⟨a, vs, rfl, na, e, r⟩ := hx
      obtain ⟨b, ws, rfl, nb, e2, r2⟩ := hy
      refine .inr (.inr (.inl ⟨a, b, vs, ws, rfl, rfl, .inl (.inl e), .inl (.inl e2), by rw [r.length, r2.length]; exact hc, fun z => ?_, fun z z2 => ?_, fun z z2 p hp => ?_⟩))
      · have := r.nil_iff.mp z
        subst this
        exact q _ H (Ext.refl H) (VD.tup nb e2 r2)
      · have := r2.nil_iff.mp z2
        subst this
        rw [List.append_nil] at q
        exact q _ H (Ext.refl H) (VD.tup na e r)
      · exact q _ _ (Ext.new hp) (roTup hL hp (r.append r2))
    · cases h
  · rename_i xs ys
    split at h
    · rename_i hc
      cases h
      obtain ⟨a, vs, rfl, e, r⟩ := hx
      obtain ⟨b, ws, rfl, e2, r2⟩ := hy
      exact .inr (.inr (.inr ⟨a, b, vs, ws, rfl, rfl, e, e2, by rw [r.length, r2.length]; exact hc, fun p hp => q _ _ (Ext.new hp) (roLst hp (r.append r2))⟩))
    · cases h
  · cases h
theorem op_subD : OpR X (binaryOp .Sub) (rI (fun _ _ => True) fun i j => .int (i - j)) := opI fun _ _ _ _ _ _ _ _ q => sub_int q
theorem os_sub : OpS K (rI (fun _ _ => True) fun i j => .int (i - j)) opSub := os_int (op := opSub) fun x y r h => by
  unfold opSub at h
  split at h
  · cases h; exact ⟨_, _, rfl, rfl, trivial, rfl⟩
  · cases h
theorem op_fdivD : OpR X (binaryOp .FloorDiv) (rI (fun _ j => divOk j) fun i j => .int (i.fdiv j)) := opI fun i j _ _ _ _ _ hc q => floordiv_int hc.1 q (.inl (PyProof.noPylong_of_log2 hc.2))
theorem os_fdiv : OpS K (rI (fun _ j => divOk j) fun i j => .int (i.fdiv j)) opFdiv := os_int (op := opFdiv) (C := fun _ j => divOk j) fun x y r h => by
  unfold opFdiv at h
  split at h
  · split at h
    · rename_i hc; cases h; exact ⟨_, _, rfl, rfl, hc, rfl⟩
    · cases h
  · cases h
theorem os_mod : OpS K (rI (fun _ j => j ≠ 0) fun i j => .int (i.fmod j)) opMod := os_int (op := opMod) (C := fun _ j => j ≠ 0) fun x y r h => by
  unfold opMod at h
  split at h
  · split at h
    · rename_i hc; cases h; exact ⟨_, _, rfl, rfl, hc, rfl⟩
    · cases h
  · cases h
theorem os_pow : OpS K (rI CPow fun i j => .int (i ^ j.toNat)) opPow := os_int (op := opPow) (C := CPow) fun x y r h => by
  unfold opPow at h
  split at h
  · split at h
    · rename_i hc; cases h; exact ⟨_, _, rfl, rfl, hc, rfl⟩
    · cases h
  · cases h
theorem us_neg : UnS K (rU fun i => .int (-i)) opNeg := by
  intro L H x dx res Q hx hL h q
  unfold opNeg at h
  split at h
  · cases h
    exact ⟨_, hx, q _ H (Ext.refl H) (.int _)⟩
  · cases h

/-! ### comparisons of ints -/
def opLt : D → D → Option R
  | .int i, .int j => some (.d (.bl (decide (i < j))))
  | _, _ => none
def opLe : D → D → Option R
  | .int i, .int j => some (.d (.bl (decide (i ≤ j))))
  | _, _ => none
def opGt : D → D → Option R
  | .int i, .int j => some (.d (.bl (decide (j < i))))
  | _, _ => none
def opGe : D → D → Option R
  | .int i, .int j => some (.d (.bl (decide (j ≤ i))))
  | _, _ => none
theorem os_cmp {g : Int → Int → Bool} {op : D → D → Option R} (ho : ∀ x y r, op x y = some r → ∃ i j, x = .int i ∧ y = .int j ∧ r = .d (.bl (g i j))) : OpS K (rI0 fun i j => .bl (g i j)) op := by
  intro L H x y dx dy res Q hx hy hL h q
  obtain ⟨i, j, rfl, rfl, rfl⟩ := ho _ _ _ h
  exact ⟨i, j, hx, hy, q _ H (Ext.refl H) (.bl _)⟩
theorem os_lt : OpS K (rI0 fun i j => .bl (decide (i < j))) opLt := os_cmp (op := opLt) fun x y r h => by
  unfold opLt at h
  split at h
  · cases h; exact ⟨_, _, rfl, rfl, rfl⟩
  · cases h
theorem os_le : OpS K (rI0 fun i j => .bl (decide (i ≤ j))) opLe := os_cmp (op := opLe) fun x y r h => by
  unfold opLe at h
  split at h
  · cases h; exact ⟨_, _, rfl, rfl, rfl⟩
  · cases h
theorem os_gt : OpS K (rI0 fun i j => .bl (decide (j < i))) opGt := os_cmp (op := opGt) fun x y r h => by
  unfold opGt at h
  split at h
  · cases h; exact ⟨_, _, rfl, rfl, rfl⟩
  · cases h
theorem os_ge : OpS K (rI0 fun i j => .bl (decide (j ≤ i))) opGe := os_cmp (op := opGe) fun x y r h => by
  unfold opGe at h
  split at h
  · cases h; exact ⟨_, _, rfl, rfl, rfl⟩
  · cases h

/-! ### equality of data -/
mutual
def py : D → PyData
  | .non => .none
  | .bl b => .bool b
  | .int i => .int i
  | .str x => .str x
  | .tup xs => .tuple (pys xs)
  | .lst xs => .list (pys xs)
  | .frl xs => .list (pys xs)
  | .frt xs => .tuple (pys xs)
  | .dK _ => .dict []
  | .dT _ => .dict []
def pys : List D → List PyData
  | [] => []
  | x :: xs => py x :: pys xs
end
def shp (d : D) : Bool := SeqAt.shaped (py d)
mutual
theorem VD.dp {L : List Addr} {H : Hp} : ∀ {v : V} {d : D}, VD K L H v d → (py d).canLay0 = true → Dp K H v (py d)
  | _, _, .non, _ => by unfold py; exact .non
  | _, _, .bl b, _ => by unfold py; exact .bl b
  | _, _, .int i, _ => by unfold py; exact .int i
  | _, _, .str x, _ => by unfold py; exact .str x
  | _, _, .tup _ h hs, c => by
    unfold py at c ⊢
    unfold PyData.canLay0 at c
    exact .tup (.inl (.inl h)) (VDs.dp hs c)
  | _, _, .lst _ h hs, c => by
    unfold py at c ⊢
    unfold PyData.canLay0 at c
    exact .lst (.inl (.inl h)) (VDs.dp hs c)
  | _, _, .frl h hs, c => by
    unfold py at c ⊢
    unfold PyData.canLay0 at c
    exact .lst h.sq (VDs.dp hs c)
  | _, _, .frt h hs, c => by
    unfold py at c ⊢
    unfold PyData.canLay0 at c
    exact .tup h.sq (VDs.dp hs c)
  | _, _, .dK _ _ _ _, c => by unfold py PyData.canLay0 at c; cases c
  | _, _, .dT _ _ _ _, c => by unfold py PyData.canLay0 at c; cases c
theorem VDs.dp {L : List Addr} {H : Hp} : ∀ {vs : List V} {ds : List D}, VDs K L H vs ds → PyData.canLayAll0 (pys ds) = true → DpAll K H vs (pys ds)
  | _, _, .nil, _ => by unfold pys; exact .nil
  | _, _, .cons h hs, c => by
    unfold pys at c ⊢
    unfold PyData.canLayAll0 at c
    rw [Bool.and_eq_true] at c
    exact .cons (VD.dp h c.1) (VDs.dp hs c.2)
end
theorem VC.dp {L : List Addr} {H : Hp} {v : V} {d : D} (h : VC K L H v d) (c : (py d).canLay0 = true) : Dp K H v (py d) := by
  cases d with
  | non => cases (show v = .non from h); exact VD.dp (L := L) .non c
  | bl b => cases (show v = .bl b from h); exact VD.dp (L := L) (.bl b) c
  | int b => cases (show v = .int b from h); exact VD.dp (L := L) (.int b) c
  | str b => cases (show v = .str b from h); exact VD.dp (L := L) (.str b) c
  | tup xs => obtain ⟨a, vs, rfl, n, e, r⟩ := h; exact VD.dp (L := L) (.tup n e r) c
  | frl xs => obtain ⟨a, vs, rfl, e, r⟩ := h; exact VD.dp (L := L) (.frl e r) c
  | frt xs => obtain ⟨a, vs, rfl, e, r⟩ := h; exact VD.dp (L := L) (.frt e r) c
  | lst xs =>
    obtain ⟨a, vs, rfl, e, r⟩ := h
    unfold py at c ⊢
    unfold PyData.canLay0 at c
    exact .lst (.inl (.inl e)) (VDs.dp r c)
  | dK kvs => unfold py PyData.canLay0 at c; cases c
  | dT kvs => unfold py PyData.canLay0 at c; cases c
theorem shp_lay {d : D} (h : shp d = true) : (py d).canLay0 = true := by
  unfold shp SeqAt.shaped at h
  exact (Bool.and_eq_true_iff.mp h).1
def opEq (x y : D) : Option R := if shp x = true ∧ shp y = true then some (.d (.bl (PyData.eqv (py x) (py y)))) else none
def opNe (x y : D) : Option R := if shp x = true ∧ shp y = true then some (.d (.bl (!PyData.eqv (py x) (py y)))) else none
theorem os_eq : OpS K (rEqD K) opEq := by
  intro L H x y dx dy res Q hx hy hL h q
  unfold opEq at h
  split at h
  · rename_i hc
    cases h
    exact ⟨_, _, hx.dp (shp_lay hc.1), hy.dp (shp_lay hc.2), hc.1, hc.2, q _ H (Ext.refl H) (.bl _)⟩
  · cases h
theorem os_ne : OpS K (rNeD K) opNe := by
  intro L H x y dx dy res Q hx hy hL h q
  unfold opNe at h
  split at h
  · rename_i hc
    cases h
    exact ⟨_, _, hx.dp (shp_lay hc.1), hy.dp (shp_lay hc.2), hc.1, hc.2, q _ H (Ext.refl H) (.bl _)⟩
  · cases h
/-! ### is -/
def isNon : D → Bool
  | .non => true
  | _ => false
theorem VC.non_iff {L : List Addr} {H : Hp} {v : V} {d : D} (h : VC K L H v d) : decide (v = .non) = isNon d := by
  cases d with
  | non => cases (show v = .non from h); rfl
  | bl b => cases (show v = .bl b from h); rfl
  | int b => cases (show v = .int b from h); rfl
  | str b => cases (show v = .str b from h); rfl
  | tup xs => obtain ⟨a, vs, rfl, _⟩ := h; rfl
  | frl xs => obtain ⟨a, vs, rfl, _⟩ := h; rfl
  | frt xs => obtain ⟨a, vs, rfl, _⟩ := h; rfl
  | lst xs => obtain ⟨a, vs, rfl, _⟩ := h; rfl
  | dK xs => obtain ⟨a, vs, rfl, _⟩ := h; rfl
  | dT xs => obtain ⟨a, vs, rfl, _⟩ := h; rfl
def opIs : D → D → Option R
  | x, .non => some (.d (.bl (isNon x)))
  | .bl a, .bl b => some (.d (.bl (decide (a = b))))
  | _, _ => none
def opIsn : D → D → Option R
  | x, .non => some (.d (.bl (!isNon x)))
  | .bl a, .bl b => some (.d (.bl (!decide (a = b))))
  | _, _ => none
def rIsD : R2 := fun x y H Q => (y = .non ∧ Q (.bl (decide (x = .non))) H) ∨ rIsB x y H Q
def rIsnD : R2 := fun x y H Q => (y = .non ∧ Q (.bl (!decide (x = .non))) H) ∨ rNotB x y H Q
theorem op_isD : OpR X (compareOp .Is) rIsD := OpR.or op_isN op_isBl
theorem op_isnD : OpR X (compareOp .IsNot) rIsnD := OpR.or op_notN op_notBl
theorem os_is : OpS K rIsD opIs := by
  intro L H x y dx dy res Q hx hy hL h q
  unfold opIs at h
  split at h
  · cases h
    refine .inl ⟨hy, ?_⟩
    rw [hx.non_iff]
    exact q _ H (Ext.refl H) (.bl _)
  · cases h
    exact .inr ⟨_, _, hx, hy, q _ H (Ext.refl H) (.bl _)⟩
  · cases h
theorem os_isn : OpS K rIsnD opIsn := by
  intro L H x y dx dy res Q hx hy hL h q
  unfold opIsn at h
  split at h
  · cases h
    refine .inl ⟨hy, ?_⟩
    rw [hx.non_iff]
    exact q _ H (Ext.refl H) (.bl _)
  · cases h
    exact .inr ⟨_, _, hx, hy, q _ H (Ext.refl H) (.bl _)⟩
  · cases h
end
end DL

set_option Elab.async false
set_option linter.all false
set_option maxRecDepth 100000
set_option maxHeartbeats 4000000
namespace DL
open PySem PySem.Spec PyProof.Rows L2

/-! ### keys and tables -/
section
variable {κ α : Type} [DecidableEq κ]
def lookA (kvs : List (κ × α)) (k : κ) : Option α := (kvs.find? fun kv => decide (kv.1 = k)).map (·.2)
def putA (kvs : List (κ × α)) (k : κ) (v : α) : List (κ × α) :=
  if (kvs.any fun kv => decide (kv.1 = k)) = true then kvs.map (fun kv => if kv.1 = k then (kv.1, v) else kv) else kvs ++ [(k, v)]
end
def keyD : D → Option Key
  | .int i => some (.inl i)
  | .str x => some (.inr x)
  | _ => none
def keyTs : List D → Option (List Key)
  | [] => some []
  | d :: ds => (match keyD d, keyTs ds with
    | some k, some ks => some (k :: ks)
    | _, _ => none)
def kD : Key → D
  | .inl i => .int i
  | .inr x => .str x
def dget : D → D → Option (Option D)
  | .dK kvs, k => (keyD k).map fun k => lookA kvs k
  | .dT kvs, .tup ds => (keyTs ds).map fun k => lookA kvs k
  | _, _ => none
def dput : D → D → D → Option D
  | .dK kvs, k, v => if kvs.length < sizeLine then (keyD k).map fun k => .dK (putA kvs k v) else none
  | .dT kvs, .tup ds, v => if kvs.length < sizeLine then (keyTs ds).map fun k => .dT (putA kvs k v) else none
  | _, _, _ => none
section
variable {X : Cx} {K : PySem.W.Frag} {L : List Addr} {H : Hp}
theorem key_v {v : V} {d : D} {k : Key} (h : VC K L H v d) (e : keyD d = some k) : v = kV k := by
  cases d with
  | int i => cases e; exact h
  | str x => cases e; exact h
  | _ => cases e
theorem keyTs_v : ∀ {vs : List V} {ds : List D} {ks : List Key}, VDs K L H vs ds → keyTs ds = some ks → vs = ks.map kV
  | _, _, _, .nil, e => by cases e; rfl
  | _, _, _, .cons h hs, e => by
    unfold keyTs at e
    split at e
    · rename_i k ks e1 e2
      cases e
      rw [List.map_cons, key_v h.cur e1, keyTs_v hs e2]
    · cases e
section
variable {κ : Type} [DecidableEq κ]
theorem look_rel {k : κ} : ∀ {kvs : List (κ × V)} {ds : List (κ × D)}, kvs.map (·.1) = ds.map (·.1) → VDs K L H (kvs.map (·.2)) (ds.map (·.2)) →
    (∀ d, lookA ds k = some d → ∃ v, valV kvs k = some v ∧ VD K L H v d) ∧ (lookA ds k = none → valV kvs k = none)
  | [], [], _, _ => ⟨fun d e => (by cases e), fun _ => rfl⟩
  | [], _ :: _, e, _ => by simp at e
  | _ :: _, [], e, _ => by simp at e
  | (k1, v1) :: kvs, (k2, d2) :: ds, e, h => by
    simp only [List.map_cons, List.cons.injEq] at e
    obtain ⟨rfl, e⟩ := e
    cases h with
    | cons h hs =>
      have ih := look_rel (k := k) e hs
      by_cases hk : k1 = k
      · refine ⟨fun d e => ?_, fun e => ?_⟩
        · simp only [lookA, List.find?_cons, hk, decide_true, Option.map_some] at e
          cases e
          exact ⟨v1, valV_pos (p := (k1, v1)) hk, h⟩
        · simp only [lookA, List.find?_cons, hk, decide_true, Option.map_some] at e
          cases e
      · have e1 : lookA ((k1, d2) :: ds) k = lookA ds k := by simp [lookA, List.find?_cons, hk]
        rw [e1, valV_neg (p := (k1, v1)) hk]
        exact ih
theorem any_rel {k : κ} : ∀ {kvs : List (κ × V)} {ds : List (κ × D)}, kvs.map (·.1) = ds.map (·.1) → (kvs.any fun kv => decide (kv.1 = k)) = (ds.any fun kv => decide (kv.1 = k))
  | [], [], _ => rfl
  | [], _ :: _, e => by simp at e
  | _ :: _, [], e => by simp at e
  | (k1, v1) :: kvs, (k2, d2) :: ds, e => by
    simp only [List.map_cons, List.cons.injEq] at e
    obtain ⟨rfl, e⟩ := e
    rw [List.any_cons, List.any_cons, any_rel e]
theorem put_rel {k : κ} {v : V} {d : D} (hv : VD K L H v d) {kvs : List (κ × V)} {ds : List (κ × D)} (e : kvs.map (·.1) = ds.map (·.1)) (h : VDs K L H (kvs.map (·.2)) (ds.map (·.2))) :
    (putK kvs k v).map (·.1) = (putA ds k d).map (·.1) ∧ VDs K L H ((putK kvs k v).map (·.2)) ((putA ds k d).map (·.2)) := by
  unfold putK putA
  rw [any_rel e]
  split
  · rename_i hany
    clear hany
    induction kvs generalizing ds with
    | nil =>
      cases ds with
      | nil => exact ⟨rfl, .nil⟩
      | cons _ _ => simp at e
    | cons p kvs ih =>
      cases ds with
      | nil => simp at e
      | cons q ds =>
        obtain ⟨k1, v1⟩ := p
        obtain ⟨k2, d2⟩ := q
        simp only [List.map_cons, List.cons.injEq] at e
        obtain ⟨rfl, e⟩ := e
        cases h with
        | cons h hs =>
          obtain ⟨i1, i2⟩ := ih e hs
          by_cases hk : k1 = k
          · simp only [List.map_cons, hk, if_true]
            exact ⟨by rw [i1], .cons hv i2⟩
          · simp only [List.map_cons, hk, if_false]
            exact ⟨by rw [i1], .cons h i2⟩
  · refine ⟨by simp [e], ?_⟩
    rw [List.map_append, List.map_append]
    exact h.append (.cons hv .nil)
end
theorem dget_rel {v u : V} {d k : D} {r : Option D} (hd : VC K L H v d) (hk : VC K L H u k) (e : dget d k = some r) : ∃ a o, v = .ref a ∧ DGet H a u o ∧ IsD H a ∧ (∀ x, r = some x → ∃ w, o = some w ∧ VD K L H w x) ∧ (r = none → o = none) := by
  cases d with
  | dK kvs =>
    obtain ⟨a, ws, rfl, hr, e1, hs⟩ := hd
    simp only [dget] at e
    cases ek : keyD k with
    | none => rw [ek] at e; cases e
    | some kk =>
      rw [ek] at e
      cases e
      obtain ⟨l1, l2⟩ := look_rel (k := kk) e1 hs
      exact ⟨a, _, rfl, .inl ⟨ws, kk, hr, key_v hk ek, rfl⟩, .inl ⟨ws, hr⟩, l1, l2⟩
  | dT kvs =>
    obtain ⟨a, ws, rfl, hr, e1, hs⟩ := hd
    cases k with
    | tup ds =>
      simp only [dget] at e
      cases ek : keyTs ds with
      | none => rw [ek] at e; cases e
      | some kk =>
        rw [ek] at e
        cases e
        obtain ⟨b, us, rfl, nb, eb, hb⟩ := hk
        obtain ⟨l1, l2⟩ := look_rel (k := kk) e1 hs
        exact ⟨a, _, rfl, .inr ⟨ws, kk, b, hr, rfl, by rw [← keyTs_v hb ek]; exact eb, rfl⟩, .inr ⟨ws, hr⟩, l1, l2⟩
    | _ => cases e
  | _ => cases e

/-! ### in -/
def opIn (neg : Bool) : D → D → Option R
  | x, .lst ys => if shp x = true ∧ shp (.lst ys) = true then some (.d (.bl (xor neg ((pys ys).any fun z => PyData.eqv z (py x))))) else none
  | x, .tup ys => if shp x = true ∧ shp (.tup ys) = true then some (.d (.bl (xor neg ((pys ys).any fun z => PyData.eqv z (py x))))) else none
  | .str x, .str y => some (.d (.bl (xor neg (!(Builtin.Str.occurrences y x 0 y.length 1).isEmpty))))
  | k, .dK kvs => (dget (.dK kvs) k).map fun o => .d (.bl (xor neg o.isSome))
  | k, .dT kvs => (dget (.dT kvs) k).map fun o => .d (.bl (xor neg o.isSome))
  | _, _ => none
def rInTD (K : PySem.W.Frag) (neg : Bool) : R2 := fun x y H Q => ∃ d ds, Dp K H x d ∧ Dp K H y (.tuple ds) ∧ SeqAt.shaped d = true ∧ SeqAt.shaped (.tuple ds) = true ∧ Q (.bl (xor neg (ds.any fun z => PyData.eqv z d))) H
theorem room_tup {A : Around} {d : PyData} {ds : List PyData} (h : SeqAt.shaped d = true) (hu : A.units + 65 < cLine) : A.units + 1 + min (PyData.depthAll ds) d.depth < cLine := by
  unfold SeqAt.shaped at h
  rw [Bool.and_eq_true, decide_eq_true_eq] at h
  have := h.2
  omega
theorem lay_tup {ds : List PyData} (h : SeqAt.shaped (.tuple ds) = true) : PyData.canLayAll0 ds = true := by
  unfold SeqAt.shaped at h
  rw [Bool.and_eq_true] at h
  have := h.1
  unfold PyData.canLay0 at this
  exact this
theorem op_inTD (hu : X.A.units + 65 < cLine) : OpR X (compareOp .In) (rInTD X.K false) := by
  intro pins s σ H x y v u Q I rx ry h
  obtain ⟨d, ds, hd, he, sd, se, q⟩ := h
  obtain ⟨as, r1⟩ := Dp.reads I d x v hd rx
  obtain ⟨bs, r2⟩ := Dp.reads I (.tuple ds) y u he ry
  rw [Bool.false_xor] at q
  exact SeqAt.in_tuple_reads r2 r1 (lay_tup se) (SeqAt.canLay_of_shaped sd) (room_tup sd hu) ⟨.bl _, H, I, rfl, q⟩
theorem op_ninTD (hu : X.A.units + 65 < cLine) : OpR X (compareOp .NotIn) (rInTD X.K true) := by
  intro pins s σ H x y v u Q I rx ry h
  obtain ⟨d, ds, hd, he, sd, se, q⟩ := h
  obtain ⟨as, r1⟩ := Dp.reads I d x v hd rx
  obtain ⟨bs, r2⟩ := Dp.reads I (.tuple ds) y u he ry
  rw [Bool.true_xor] at q
  exact SeqAt.notIn_tuple_reads r2 r1 (lay_tup se) (SeqAt.canLay_of_shaped sd) (room_tup sd hu) ⟨.bl _, H, I, rfl, q⟩
def rDIn (neg : Bool) : R2 := fun y x H Q => ∃ a o, x = .ref a ∧ DGet H a y o ∧ Q (.bl (xor neg o.isSome)) H
theorem op_din (hu : X.A.units + 1 < cLine) : OpR X (compareOp .In) (rDIn false) := by
  intro pins s σ H x y v u Q I rx ry h
  obtain ⟨a, o, rfl, g, q⟩ := h
  cases ry
  rw [Bool.false_xor] at q
  exact d_in hu I g rx fun s' I' => ⟨.bl _, H, I', rfl, q⟩
theorem op_dnin (hu : X.A.units + 1 < cLine) : OpR X (compareOp .NotIn) (rDIn true) := by
  intro pins s σ H x y v u Q I rx ry h
  obtain ⟨a, o, rfl, g, q⟩ := h
  cases ry
  rw [Bool.true_xor] at q
  exact d_notIn hu I g rx fun s' I' => ⟨.bl _, H, I', rfl, q⟩
def rInAll (K : PySem.W.Frag) (neg : Bool) : R2 := fun x y H Q =>
  (∃ d ds, Dp K H x d ∧ Dp K H y (.list ds) ∧ SeqAt.shaped d = true ∧ SeqAt.shaped (.list ds) = true ∧ Q (.bl (xor neg (ds.any fun z => PyData.eqv z d))) H) ∨
  (rInTD K neg x y H Q ∨ ((∃ i j, x = .str i ∧ y = .str j ∧ Q (.bl (xor neg (!(Builtin.Str.occurrences j i 0 j.length 1).isEmpty))) H) ∨ rDIn neg x y H Q))
theorem op_imp {f : Value → Value → Sem Value} {r r' : R2} (h : OpR X f r) (w : ∀ x y H Q, r' x y H Q → r x y H Q) : OpR X f r' := fun pins s σ H x y v u Q I rx ry q => h pins s σ H x y v u Q I rx ry (w _ _ _ _ q)
theorem op_inAll (hu : X.A.units + 65 < cLine) : OpR X (compareOp .In) (rInAll X.K false) :=
  OpR.or (op_imp (op_inD hu) fun x y H Q h => by unfold rInD; simpa only [Bool.false_xor] using h) (OpR.or (op_inTD hu) (OpR.or (op_imp op_in_str fun x y H Q h => by simpa only [Bool.false_xor] using h) (op_din (by omega))))
theorem op_ninAll (hu : X.A.units + 65 < cLine) : OpR X (compareOp .NotIn) (rInAll X.K true) :=
  OpR.or (op_imp (op_notInD hu) fun x y H Q h => by unfold rNotInD; simpa only [Bool.true_xor] using h) (OpR.or (op_ninTD hu) (OpR.or (op_imp op_notIn_str fun x y H Q h => by simpa only [Bool.true_xor] using h) (op_dnin (by omega))))
theorem os_in {neg : Bool} : OpS K (rInAll K neg) (opIn neg) := by
  intro L H x y dx dy res Q hx hy hL h q
  unfold opIn at h
  split at h
  · rename_i ys
    split at h
    · rename_i hc
      cases h
      have h2 := hy.dp (shp_lay hc.2)
      unfold py at h2
      have c2 := hc.2
      unfold shp py at c2
      exact .inl ⟨_, _, hx.dp (shp_lay hc.1), h2, hc.1, c2, q _ H (Ext.refl H) (.bl _)⟩
    · cases h
  · rename_i ys
    split at h
    · rename_i hc
      cases h
      have h2 := hy.dp (shp_lay hc.2)
      unfold py at h2
      have c2 := hc.2
      unfold shp py at c2
      exact .inr (.inl ⟨_, _, hx.dp (shp_lay hc.1), h2, hc.1, c2, q _ H (Ext.refl H) (.bl _)⟩)
    · cases h
  · cases h
    exact .inr (.inr (.inl ⟨_, _, hx, hy, q _ H (Ext.refl H) (.bl _)⟩))
  · rename_i kvs
    cases e : dget (.dK kvs) dx with
    | none => rw [e] at h; cases h
    | some r =>
      rw [e] at h
      cases h
      obtain ⟨a, o, rfl, g, _, h1, h2⟩ := dget_rel hy hx e
      refine .inr (.inr (.inr ⟨a, o, rfl, g, ?_⟩))
      have : o.isSome = r.isSome := by
        cases r with
        | none => rw [h2 rfl]; rfl
        | some w => obtain ⟨w', e', _⟩ := h1 w rfl; rw [e']; rfl
      rw [this]
      exact q _ H (Ext.refl H) (.bl _)
  · rename_i kvs
    cases e : dget (.dT kvs) dx with
    | none => rw [e] at h; cases h
    | some r =>
      rw [e] at h
      cases h
      obtain ⟨a, o, rfl, g, _, h1, h2⟩ := dget_rel hy hx e
      refine .inr (.inr (.inr ⟨a, o, rfl, g, ?_⟩))
      have : o.isSome = r.isSome := by
        cases r with
        | none => rw [h2 rfl]; rfl
        | some w => obtain ⟨w', e', _⟩ := h1 w rfl; rw [e']; rfl
      rw [this]
      exact q _ H (Ext.refl H) (.bl _)
  · cases h

/-! ### subscripts -/
def opIx : D → D → Option R
  | .lst xs, .int i => (atI xs i).map .d
  | .tup xs, .int i => (atI xs i).map .d
  | .frl xs, .int i => (atI xs i).map .d
  | .frt xs, .int i => (atI xs i).map .d
  | .str x, .int i => if fits x.length then (atI x.cps.toList i).map fun c => .d (.str ⟨#[c]⟩) else none
  | .dK kvs, k => (match dget (.dK kvs) k with
    | some (some v) => some (.d v)
    | _ => none)
  | .dT kvs, k => (match dget (.dT kvs) k with
    | some (some v) => some (.d v)
    | _ => none)
  | _, _ => none
def rDG : R2 := fun x y H Q => ∃ a v, x = .ref a ∧ DGet H a y (some v) ∧ Q v H
theorem atI_rel {vs : List V} {ds : List D} {i : Int} {d : D} (h : VDs K L H vs ds) (e : atI ds i = some d) : ∃ v, atI vs i = some v ∧ VD K L H v d := by
  unfold atI at e ⊢
  rw [h.length]
  cases e1 : ixN ds.length i with
  | none => rw [e1] at e; cases e
  | some j =>
    rw [e1] at e
    exact h.get e
def isDict : D → Bool
  | .dK _ => true
  | .dT _ => true
  | _ => false
theorem os_ixS : OpS K (rIx K) (fun x y => if isDict x then none else opIx x y) := by
  intro L H x y dx dy res Q hx hy hL h q
  dsimp only at h
  split at h
  · cases h
  rename_i hd
  unfold opIx at h
  split at h
  · obtain ⟨a, vs, rfl, e, r⟩ := hx
    obtain ⟨d, e1, rfl⟩ := Option.map_eq_some_iff.mp h
    obtain ⟨v, e2, hv⟩ := atI_rel r e1
    exact .inl ⟨a, vs, _, v, rfl, hy, .inl (.inl e), e2, q _ H (Ext.refl H) hv⟩
  · obtain ⟨a, vs, rfl, n, e, r⟩ := hx
    obtain ⟨d, e1, rfl⟩ := Option.map_eq_some_iff.mp h
    obtain ⟨v, e2, hv⟩ := atI_rel r e1
    exact .inr (.inl ⟨a, vs, _, v, rfl, hy, .inl (.inl e), e2, q _ H (Ext.refl H) hv⟩)
  · obtain ⟨a, vs, rfl, e, r⟩ := hx
    obtain ⟨d, e1, rfl⟩ := Option.map_eq_some_iff.mp h
    obtain ⟨v, e2, hv⟩ := atI_rel r e1
    exact .inl ⟨a, vs, _, v, rfl, hy, e.sq, e2, q _ H (Ext.refl H) hv⟩
  · obtain ⟨a, vs, rfl, e, r⟩ := hx
    obtain ⟨d, e1, rfl⟩ := Option.map_eq_some_iff.mp h
    obtain ⟨v, e2, hv⟩ := atI_rel r e1
    exact .inr (.inl ⟨a, vs, _, v, rfl, hy, e.sq, e2, q _ H (Ext.refl H) hv⟩)
  · split at h
    · rename_i hz
      obtain ⟨c, e1, rfl⟩ := Option.map_eq_some_iff.mp h
      exact .inr (.inr ⟨_, _, c, hx, hy, hz, e1, q _ H (Ext.refl H) (.str _)⟩)
    · cases h
  · exact absurd rfl hd
  · exact absurd rfl hd
  · cases h
theorem os_ixD : OpS K rDG (fun x y => if isDict x then opIx x y else none) := by
  intro L H x y dx dy res Q hx hy hL h q
  dsimp only at h
  split at h
  · rename_i hd
    unfold opIx at h
    split at h
    · cases hd
    · cases hd
    · cases hd
    · cases hd
    · cases hd
    · rename_i kvs
      split at h
      · rename_i v e
        cases h
        obtain ⟨a, o, rfl, g, _, h1, _⟩ := dget_rel hx hy e
        obtain ⟨w, rfl, hw⟩ := h1 _ rfl
        exact ⟨a, w, rfl, g, q _ H (Ext.refl H) hw⟩
      · cases h
    · rename_i kvs
      split at h
      · rename_i v e
        cases h
        obtain ⟨a, o, rfl, g, _, h1, _⟩ := dget_rel hx hy e
        obtain ⟨w, rfl, hw⟩ := h1 _ rfl
        exact ⟨a, w, rfl, g, q _ H (Ext.refl H) hw⟩
      · cases h
    · cases h
  · cases h
end
theorem gOp_if {c : D → Bool} {f : D → D → Option R} {ga gb : GE} {env : Env} {st st' : Sto} {r : R} (h : gOp f ga gb env st = some (r, st')) :
    gOp (fun x y => if c x then f x y else none) ga gb env st = some (r, st') ∨ gOp (fun x y => if c x then none else f x y) ga gb env st = some (r, st') := by
  unfold gOp at h ⊢
  split at h
  · cases h
  · rename_i a st1 e1
    split at h
    · cases h
    · rename_i b st2 e2
      split at h
      · rename_i x y ex ey
        cases hc : c x with
        | true => left; simpa [e1, e2, ex, ey, hc] using h
        | false => right; simpa [e1, e2, ex, ey, hc] using h
      · cases h
section
variable {X : Cx} {a b : Expr} {ga gb : GE} {pos : Pos}
theorem pe_or {e : Expr} {t t' : TE} (h : PE X e t) (h' : PE X e t') : PE X e (fun σ H Q => t σ H Q ∨ t' σ H Q) := ⟨fun pins s σ H Q I q => q.elim (h.run pins s σ H Q I) (h'.run pins s σ H Q I)⟩
theorem de_ix (hu : X.A.units + 1 < cLine) (ha : DE X a ga) (hb : DE X b gb) (hs : PlainIx b) : DE X (.Subscript a b pos) (gOp opIx ga gb) :=
  pe_imp (pe_or (pe_dget hu ha hb hs) (pe_ix ix_seq ha hb hs)) fun σ H Q h => by
    obtain ⟨M, L, env, st, z, st', er, sr, hg, q⟩ := h
    rcases gOp_if (c := isDict) hg with hg | hg
    · exact .inl (op_of (r := rDG) os_ixD σ H Q ⟨M, L, env, st, z, st', er, sr, hg, q⟩)
    · exact .inr (op_of os_ixS σ H Q ⟨M, L, env, st, z, st', er, sr, hg, q⟩)
theorem de_in (hu : X.A.units + 65 < cLine) (ha : DE X a ga) (hb : DE X b gb) (hm : behindInMarks .In b = false) : DE X (.Compare a [.In] [b] pos) (gOp (opIn false) ga gb) := de_cmp (op_inAll hu) os_in ha hb hm
theorem de_nin (hu : X.A.units + 65 < cLine) (ha : DE X a ga) (hb : DE X b gb) (hm : behindInMarks .NotIn b = false) : DE X (.Compare a [.NotIn] [b] pos) (gOp (opIn true) ga gb) := de_cmp (op_ninAll hu) os_in ha hb hm
theorem dt_in (hu : X.A.units + 65 < cLine) (ha : DE X a ga) (hb : DE X b gb) (hm : behindInMarks .In b = false) : DT X (.Compare a [.In] [b] pos) (gTest (gOp (opIn false) ga gb)) := dt_cmp (op_inAll hu) os_in ha hb hm
theorem dt_nin (hu : X.A.units + 65 < cLine) (ha : DE X a ga) (hb : DE X b gb) (hm : behindInMarks .NotIn b = false) : DT X (.Compare a [.NotIn] [b] pos) (gTest (gOp (opIn true) ga gb)) := dt_cmp (op_ninAll hu) os_in ha hb hm
end
end DL

set_option Elab.async false
set_option linter.all false
set_option maxRecDepth 100000
set_option maxHeartbeats 4000000
namespace DL
open PySem PySem.Spec PyProof.Rows L2

section
variable {K : PySem.W.Frag} {M L : List Addr} {H : Hp} {st : Sto} {a : Addr} {n : Nat} {c : D} {o : HO}
theorem fr_put (hn : L[n]? = some a) : Fr L H (upd H a o) := fun b u nb e => by
  rw [upd_ne fun z => nb (by rw [z]; exact List.mem_of_getElem? hn)]
  exact e
theorem mv_put (hn : L[n]? = some a) : Mv (M ++ L) H (M ++ L) (upd H a o) := (fr_put hn).mvM
theorem SR.put (s : SR K M L H st) (hn : L[n]? = some a) (hc : CellAt K (M ++ L) (upd H a o) a c) : SR K M L (upd H a o) (st.set n c) := by
  refine ⟨s.nd, by rw [List.length_set]; exact s.len, fun m b d h1 h2 => ?_, fun b m => ?_⟩
  · by_cases hm : n = m
    · subst hm
      rw [hn] at h1
      cases h1
      have hl : n < st.length := by
        have := (List.getElem?_eq_some_iff.mp h2).1
        rw [List.length_set] at this; exact this
      rw [List.getElem?_set_self hl] at h2
      cases h2
      exact hc
    · rw [List.getElem?_set_ne hm] at h2
      have nab : b ≠ a := fun e => by
        subst e
        have l1 := (List.getElem?_eq_some_iff.mp hn).1
        have l2 := (List.getElem?_eq_some_iff.mp h1).1
        exact hm ((List.getElem?_inj l1 s.nd).mp (hn.trans h1.symm))
      exact (s.at_ m b d h1 h2).mv (mv_put hn) fun o e => by rw [upd_ne nab]; exact e
  · by_cases z : b = a
    · rw [z]; exact ⟨_, upd_same⟩
    · rw [upd_ne z]; exact s.hid b m
/-- the list at a place of the store -/
theorem SR.lst (s : SR K M L H st) {xs : List D} (hn : L[n]? = some a) (hx : st[n]? = some (.lst xs)) : ∃ vs, H a = some (.lst vs) ∧ VDs K (M ++ L) H vs xs := s.at_ n a _ hn hx
theorem SR.putL (s : SR K M L H st) {vs : List V} {xs : List D} (hn : L[n]? = some a) (r : VDs K (M ++ L) H vs xs) : SR K M L (upd H a (.lst vs)) (st.set n (.lst xs)) :=
  s.put hn ⟨vs, upd_same, r.mv (mv_put hn)⟩
end

/-- xs.append(y), xs at a place of the store -/
def gApp (go ge : GE) : GE := fun env st => match go env st with
  | some (.loc n, st1) => (match st1[n]? with
    | some (.lst _) => (match ge env st1 with
      | some (r, st2) => (match valT r, st2[n]? with
        | some y, some (.lst xs) => if xs.length < sizeLine then some (.d .non, st2.set n (.lst (xs ++ [y]))) else none
        | _, _ => none)
      | none => none)
    | _ => none)
  | _ => none
/-- xs.pop() -/
def gPop (go : GE) : GE := fun env st => match go env st with
  | some (.loc n, st1) => (match st1[n]? with
    | some (.lst xs) => (match xs[xs.length - 1]? with
      | some y => some (.d y, st1.set n (.lst xs.dropLast))
      | none => none)
    | _ => none)
  | _ => none
/-- xs.pop(i) -/
def gPopI (go ge : GE) : GE := fun env st => match go env st with
  | some (.loc n, st1) => (match st1[n]? with
    | some (.lst _) => (match ge env st1 with
      | some (.d (.int i), st2) => (match st2[n]? with
        | some (.lst xs) => if sm62 i then (match seqIndex? i xs.length with
          | some k => (match xs[k]? with
            | some y => some (.d y, st2.set n (.lst (xs.eraseIdx k)))
            | none => none)
          | none => none) else none
        | _ => none)
      | _ => none)
    | _ => none)
  | _ => none
/-- xs.reverse() -/
def gRev (go : GE) : GE := fun env st => match go env st with
  | some (.loc n, st1) => (match st1[n]? with
    | some (.lst xs) => some (.d .non, st1.set n (.lst xs.reverse))
    | _ => none)
  | _ => none
section
variable {X : Cx} {K : PySem.W.Frag} {o e : Expr} {go ge : GE} {apos cpos : Pos}
theorem valT_re {M L : List Addr} {H0 H : Hp} {st : Sto} {v : V} {r : R} {y : D} (h : RV K M L H0 H st v r) (e : valT r = some y) : VD K (M ++ L) H v y := by
  have h2 := h.t
  cases r with
  | d x => cases e; exact h2
  | fr x => cases e; exact h2
  | loc n => cases e
theorem de_app (ho : DE X o go) (he : DE X e ge)
    (hbase : attributeBase o "append" X.env (eval o X.env) = eval o X.env := by rfl)
    (hfew : ((backTo cpos (starEach [e] X.env)).all (fun x => !x.1) && (backToKw cpos (keywordEach [] X.env)).all (fun x => x.1.isSome)
      && decide ([e].length + ([] : List Keyword).length + (if ([] : List Keyword).isEmpty then 0 else 1) < 30)) = true := by rfl)
    (hline : (apos.endLine == cpos.line) = true := by rfl) (hs : starEach [e] X.env = (false, eval e X.env) :: starEach [] X.env := by rfl) (hplain : (backTo cpos (starEach [] X.env)).any (·.1) = false := by rfl) :
    DE X (.Call (.Attribute o "append" apos) [e] [] cpos) (gApp go ge) :=
  pe_imp (pe_bm PySem.F.plainAttrs_list PySem.F.slot_list_append PySem.F.type_list_append mt_append ho (pa_cons he pa_nil hs) hbase hfew hline hs hplain) fun σ H Q h => by
    obtain ⟨M, L, env, st, z, st', er, sr, hg, q⟩ := h
    unfold gApp at hg
    split at hg
    · rename_i n st1 e1
      split at hg
      · rename_i xs0 e2
        split at hg
        · rename_i r st2 e3
          split at hg
          · rename_i y xs e4 e5
            split at hg
            · rename_i hz
              cases hg
              refine ⟨M, L, env, st, _, _, er, sr, e1, fun v H1 f1 s1 r1 => ?_⟩
              obtain ⟨a, ha, rfl⟩ := r1
              obtain ⟨vs0, h0, _⟩ := s1.lst ha e2
              refine ⟨.inl ⟨rfl, vs0, .inl (.inl h0)⟩, M, L, env, st1, _, _, er.fr f1, s1, e3, fun w H2 f2 s2 r2 => ?_⟩
              obtain ⟨vs, h1, hv⟩ := s2.lst ha e5
              refine ⟨a, vs, w, rfl, rfl, h1, by rw [hv.length]; exact hz, ?_⟩
              have hy := valT_re r2 e4
              exact q _ _ ((f1.trans f2).trans (fr_put ha)) (s2.putL ha (hv.append (.cons hy .nil))) (show VD _ _ _ _ _ from .non)
            · cases hg
          · cases hg
        · cases hg
      · cases hg
    · cases hg
theorem de_pop (ho : DE X o go) (hbase : attributeBase o "pop" X.env (eval o X.env) = eval o X.env := by rfl) (hline : (apos.endLine == cpos.line) = true := by rfl) : DE X (.Call (.Attribute o "pop" apos) [] [] cpos) (gPop go) :=
  pe_imp (pe_bm0 PySem.F.plainAttrs_list PySem.F.slot_list_pop PySem.F.type_list_pop mt_pop ho hbase hline) fun σ H Q h => by
    obtain ⟨M, L, env, st, z, st', er, sr, hg, q⟩ := h
    unfold gPop at hg
    split at hg
    · rename_i n st1 e1
      split at hg
      · rename_i xs e2
        split at hg
        · rename_i y e3
          cases hg
          refine ⟨M, L, env, st, _, _, er, sr, e1, fun v H1 f1 s1 r1 => ?_⟩
          obtain ⟨a, ha, rfl⟩ := r1
          obtain ⟨vs, h0, hv⟩ := s1.lst ha e2
          obtain ⟨w, e4, hw⟩ := hv.get e3
          refine ⟨.inl ⟨rfl, vs, .inl (.inl h0)⟩, a, vs, w, rfl, rfl, h0, by rw [hv.length]; exact e4, ?_⟩
          exact q _ _ (f1.trans (fr_put ha)) (s1.putL ha hv.dropLast) (show VD _ _ _ _ _ from hw.mv (mv_put ha))
        · cases hg
      · cases hg
    · cases hg
theorem de_popI (ho : DE X o go) (he : DE X e ge)
    (hbase : attributeBase o "pop" X.env (eval o X.env) = eval o X.env := by rfl)
    (hfew : ((backTo cpos (starEach [e] X.env)).all (fun x => !x.1) && (backToKw cpos (keywordEach [] X.env)).all (fun x => x.1.isSome)
      && decide ([e].length + ([] : List Keyword).length + (if ([] : List Keyword).isEmpty then 0 else 1) < 30)) = true := by rfl)
    (hline : (apos.endLine == cpos.line) = true := by rfl) (hs : starEach [e] X.env = (false, eval e X.env) :: starEach [] X.env := by rfl) (hplain : (backTo cpos (starEach [] X.env)).any (·.1) = false := by rfl) :
    DE X (.Call (.Attribute o "pop" apos) [e] [] cpos) (gPopI go ge) :=
  pe_imp (pe_bm PySem.F.plainAttrs_list PySem.F.slot_list_pop PySem.F.type_list_pop mt_popAt ho (pa_cons he pa_nil hs) hbase hfew hline hs hplain) fun σ H Q h => by
    obtain ⟨M, L, env, st, z, st', er, sr, hg, q⟩ := h
    unfold gPopI at hg
    split at hg
    · rename_i n st1 e1
      split at hg
      · rename_i xs0 e2
        split at hg
        · rename_i i st2 e3
          split at hg
          · rename_i xs e5
            split at hg
            · rename_i hi
              split at hg
              · rename_i k e6
                split at hg
                · rename_i y e7
                  cases hg
                  refine ⟨M, L, env, st, _, _, er, sr, e1, fun v H1 f1 s1 r1 => ?_⟩
                  obtain ⟨a, ha, rfl⟩ := r1
                  obtain ⟨vs0, h0, _⟩ := s1.lst ha e2
                  refine ⟨.inl ⟨rfl, vs0, .inl (.inl h0)⟩, M, L, env, st1, _, _, er.fr f1, s1, e3, fun w H2 f2 s2 r2 => ?_⟩
                  cases (show VD X.K (M ++ L) H2 w (.int i) from r2)
                  obtain ⟨vs, h1, hv⟩ := s2.lst ha e5
                  obtain ⟨w, e8, hw⟩ := hv.get e7
                  have i1 := hi.1
                  have i2 := hi.2
                  refine ⟨a, vs, i, k, w, rfl, rfl, h1, by omega, by omega, by rw [hv.length]; exact e6, e8, ?_⟩
                  exact q _ _ ((f1.trans f2).trans (fr_put ha)) (s2.putL ha (hv.eraseIdx k)) (show VD _ _ _ _ _ from hw.mv (mv_put ha))
                · cases hg
              · cases hg
            · cases hg
          · cases hg
        · cases hg
      · cases hg
    · cases hg
theorem de_rev (ho : DE X o go) (hbase : attributeBase o "reverse" X.env (eval o X.env) = eval o X.env := by rfl) (hline : (apos.endLine == cpos.line) = true := by rfl) : DE X (.Call (.Attribute o "reverse" apos) [] [] cpos) (gRev go) :=
  pe_imp (pe_bm0 PySem.F.plainAttrs_list PySem.F.slot_list_reverse PySem.F.type_list_reverse mt_reverse ho hbase hline) fun σ H Q h => by
    obtain ⟨M, L, env, st, z, st', er, sr, hg, q⟩ := h
    unfold gRev at hg
    split at hg
    · rename_i n st1 e1
      split at hg
      · rename_i xs e2
        cases hg
        refine ⟨M, L, env, st, _, _, er, sr, e1, fun v H1 f1 s1 r1 => ?_⟩
        obtain ⟨a, ha, rfl⟩ := r1
        obtain ⟨vs, h0, hv⟩ := s1.lst ha e2
        refine ⟨.inl ⟨rfl, vs, .inl (.inl h0)⟩, a, vs, rfl, rfl, h0, ?_⟩
        exact q _ _ (f1.trans (fr_put ha)) (s1.putL ha hv.reverse) (show VD _ _ _ _ _ from .non)
      · cases hg
    · cases hg
end

/-! ### stores to places -/
/-- xs[i] = e, d[k] = e: the value first -/
def putC (c k y : D) : Option D := match c with
  | .lst xs => (match k with
    | .int i => (ixN xs.length i).map fun j => .lst (xs.set j y)
    | _ => none)
  | c => dput c k y
def gPut (go gi ge : GE) : GS := fun env st => match ge env st with
  | some (r, st1) => (match go env st1 with
    | some (.loc n, st2) => (match gi env st2 with
      | some (rk, st3) => (match valT r, valT rk, st3[n]? with
        | some y, some k, some c => (putC c k y).map fun c' => .nx env (st3.set n c')
        | _, _, _ => none)
      | none => none)
    | _ => none)
  | none => none
section
variable {X : Cx} {K : PySem.W.Frag} {o i e : Expr} {go gi ge : GE} {pos pos' : Pos}
/-- what a store does to a cell -/
theorem dput_rel {M L : List Addr} {H : Hp} {st : Sto} {n : Nat} {a : Addr} {c c' k y : D} {u w : V} (s : SR K M L H st) (hn : L[n]? = some a) (hc : CellAt K (M ++ L) H a c) (hk : VD K (M ++ L) H u k) (hy : VD K (M ++ L) H w y) (e : dput c k y = some c') :
    ∃ H', DPut H a u w H' ∧ Fr L H H' ∧ SR K M L H' (st.set n c') := by
  cases c with
  | dK kvs =>
    obtain ⟨ws, h1, e1, hs⟩ := hc
    simp only [dput] at e
    split at e
    · rename_i hz
      cases ek : keyD k with
      | none => rw [ek] at e; cases e
      | some kk =>
        rw [ek] at e
        cases e
        obtain ⟨p1, p2⟩ := put_rel (k := kk) hy e1 hs
        have hl : ws.length = kvs.length := by
          have := congrArg List.length e1
          simpa using this
        refine ⟨upd H a (.dK (putK ws kk w)), .inl ⟨ws, kk, h1, key_v hk.cur ek, by rw [hl]; exact hz, rfl⟩, fr_put hn, s.put hn ⟨_, upd_same, p1, p2.mv (mv_put hn)⟩⟩
    · cases e
  | dT kvs =>
    obtain ⟨ws, h1, e1, hs⟩ := hc
    cases k with
    | tup ds =>
      simp only [dput] at e
      split at e
      · rename_i hz
        cases ek : keyTs ds with
        | none => rw [ek] at e; cases e
        | some kk =>
          rw [ek] at e
          cases e
          obtain ⟨p1, p2⟩ := put_rel (k := kk) hy e1 hs
          have hl : ws.length = kvs.length := by
            have := congrArg List.length e1
            simpa using this
          cases hk with
          | tup n1 eb hb =>
            exact ⟨upd H a (.dT (putK ws kk w)), .inr ⟨ws, kk, _, h1, rfl, by rw [← keyTs_v hb ek]; exact eb, by rw [hl]; exact hz, rfl⟩, fr_put hn, s.put hn ⟨_, upd_same, p1, p2.mv (mv_put hn)⟩⟩
      · cases e
    | _ => cases e
  | _ => cases e
def isLst : D → Bool
  | .lst _ => true
  | _ => false
theorem ds_put (hu : X.A.units + 1 < cLine) (ho : DE X o go) (hi : DE X i gi) (hv : DE X e ge) (hs : swapsWith e (some (.Subscript o i pos')) pos.line X.env = pure false := by rfl)
    (hsl : swapsWithSole [.Subscript o i pos'] e pos.line X.env = pure false := by rfl) (hw : swappedStores [.Subscript o i pos'] e X.env = pure none := by rfl) (h1 : (assignEach [.Subscript o i pos'] X.env).map (·.2) = [assign (.Subscript o i pos') X.env] := by rfl)
    (ha : ∀ v, assign (.Subscript o i pos') X.env v = (do
      let ov ← holding [v] (eval o X.env)
      let iv ← holding [v, ov] (eval i X.env)
      standAt pos'
      holding [v, ov, iv] (setItem ov iv v)
      release [v, ov, iv] []) := by intro _; rfl) : DS X (.Assign [.Subscript o i pos'] e pos) (gPut go gi ge) := by
  have hL := ps_asg hv (pg_sub ho hi set_list ha) hsl hw h1
  have hD := ps_dput hu ho hi hv hs
  refine ⟨fun pins s σ H Dn I h => ?_⟩
  obtain ⟨M, L, env, st, z, er, sr, hg, q⟩ := h
  unfold gPut at hg
  split at hg
  · rename_i r st1 e1
    split at hg
    · rename_i n st2 e2
      split at hg
      · rename_i rk st3 e3
        split at hg
        · rename_i y k c e4 e5 e6
          obtain ⟨c', e7, rfl⟩ := Option.map_eq_some_iff.mp hg
          unfold putC at e7
          split at e7
          · rename_i xs
            split at e7
            · rename_i ii
              obtain ⟨j, e8, rfl⟩ := Option.map_eq_some_iff.mp e7
              refine hL.run pins s σ H Dn I ⟨M, L, env, st, _, _, er, sr, e1, fun v H1 f1 s1 r1 => ?_⟩
              refine ⟨M, L, env, st1, _, _, er.fr f1, s1, e2, fun v2 H2 f2 s2 r2 => ?_⟩
              obtain ⟨a, hn, rfl⟩ := r2
              refine ⟨M, L, env, st2, _, _, er.fr (f1.trans f2), s2, e3, fun v3 H3 f3 s3 r3 => ?_⟩
              have hk := valT_re r3 e5
              cases hk
              obtain ⟨vs, h0, hvs⟩ := s3.lst hn e6
              have hy := (valT_re r1 e4).mv (f2.trans f3).mvM
              refine ⟨a, vs, ii, j, rfl, rfl, h0, by rw [hvs.length]; exact e8, ?_⟩
              have f4 := ((f1.trans f2).trans f3).trans (fr_put (o := .lst (vs.set j v)) hn)
              exact NPost.go q (er.fr f4) (s3.putL hn (hvs.set hy j)) f4
            · cases e7
          · rename_i hnl
            refine hD.run pins s σ H Dn I ⟨M, L, env, st, _, _, er, sr, e1, fun v H1 f1 s1 r1 => ?_⟩
            refine ⟨M, L, env, st1, _, _, er.fr f1, s1, e2, fun v2 H2 f2 s2 r2 => ?_⟩
            obtain ⟨a, hn, rfl⟩ := r2
            refine ⟨M, L, env, st2, _, _, er.fr (f1.trans f2), s2, e3, fun v3 H3 f3 s3 r3 => ?_⟩
            have hk := valT_re r3 e5
            have hy := (valT_re r1 e4).mv (f2.trans f3).mvM
            obtain ⟨H4, d1, d2, d3⟩ := dput_rel s3 hn (s3.at_ n a _ hn e6) hk hy e7
            have f4 := ((f1.trans f2).trans f3).trans d2
            exact ⟨a, H4, rfl, d1, NPost.go q (er.fr f4) d3 f4⟩
        · cases hg
      · cases hg
    · cases hg
  · cases hg
end
end DL

set_option Elab.async false
set_option linter.all false
set_option maxRecDepth 100000
set_option maxHeartbeats 4000000
namespace DL
open PySem PySem.Spec PyProof.Rows L2

/-! ### dicts: a new one, get -/
def gNewK : GE := fun _ st => some (.fr (.dK []), st)
def gNewT : GE := fun _ st => some (.fr (.dT []), st)
def gGet (go gk gd : GE) : GE := fun env st => match go env st with
  | some (ro, st1) => (match val st1 ro with
    | some d0 => if isDict d0 then (match gk env st1 with
      | some (rk, st2) => (match gd env st2 with
        | some (rd, st3) => (match val st3 ro, valT rk, valT rd with
          | some d, some k, some y => (match dget d k with
            | some o => some (.d (o.getD y), st3)
            | none => none)
          | _, _, _ => none)
        | none => none)
      | none => none) else none
    | none => none)
  | none => none
section
variable {X : Cx} {K : PySem.W.Frag} {o e f : Expr} {go ge gf : GE} {apos cpos pos : Pos}
theorem de_newK : DE X (.Dict [] [] pos) gNewK := pe_imp pe_dnewK fun σ H Q h => by
  obtain ⟨M, L, env, st, z, st', er, sr, hg, q⟩ := h
  cases hg
  intro p hp
  exact q _ _ (Ext.new hp).fr (sr.ext (Ext.new hp)) ((show RO X.K (M ++ L) H (upd H p (.dK [])) (.ref p) (.fr (.dK [])) from ⟨p, rfl, hp, rfl, [], upd_same, rfl, .nil⟩).rv (Ext.new hp) sr)
theorem de_newT : DE X (.Dict [] [] pos) gNewT := pe_imp pe_dnewT fun σ H Q h => by
  obtain ⟨M, L, env, st, z, st', er, sr, hg, q⟩ := h
  cases hg
  intro p hp
  exact q _ _ (Ext.new hp).fr (sr.ext (Ext.new hp)) ((show RO X.K (M ++ L) H (upd H p (.dT [])) (.ref p) (.fr (.dT [])) from ⟨p, rfl, hp, rfl, [], upd_same, rfl, .nil⟩).rv (Ext.new hp) sr)
theorem isD_of {S : List Addr} {H : Hp} {v : V} {d : D} (h : VC K S H v d) (hd : isDict d = true) : ∃ a, v = .ref a ∧ IsD H a := by
  cases d with
  | dK kvs => obtain ⟨a, ws, rfl, hr, _⟩ := h; exact ⟨a, rfl, .inl ⟨ws, hr⟩⟩
  | dT kvs => obtain ⟨a, ws, rfl, hr, _⟩ := h; exact ⟨a, rfl, .inr ⟨ws, hr⟩⟩
  | _ => cases hd
theorem de_get (hu : X.A.units + 1 < cLine) (ho : DE X o go) (he : DE X e ge) (hf : DE X f gf) (m : M2 X o "get" apos e f cpos) : DE X (.Call (.Attribute o "get" apos) [e, f] [] cpos) (gGet go ge gf) :=
  pe_imp (pe_dget2 hu ho he hf m) fun σ H Q h => by
    obtain ⟨M, L, env, st, z, st', er, sr, hg, q⟩ := h
    unfold gGet at hg
    split at hg
    · rename_i ro st1 e1
      split at hg
      · rename_i d0 e2
        split at hg
        · rename_i hd0
          split at hg
          · rename_i rk st2 e3
            split at hg
            · rename_i rd st3 e4
              split at hg
              · rename_i d k y e5 e6 e7
                split at hg
                · rename_i oo e8
                  cases hg
                  refine ⟨M, L, env, st, _, _, er, sr, e1, fun v H1 f1 s1 r1 => ?_⟩
                  obtain ⟨a, rfl, hisd⟩ := isD_of (r1.t.cur s1 (val_t.trans e2)) hd0
                  refine ⟨a, rfl, hisd, M, L, env, st1, _, _, er.fr f1, s1, e3, fun w H2 f2 s2 r2 => ?_⟩
                  refine ⟨M, L, env, st2, _, _, er.fr (f1.trans f2), s2, e4, fun u H3 f3 s3 r3 => ?_⟩
                  have hv := (r1.t.fr (f2.trans f3)).cur s3 (val_t.trans e5)
                  have hk := ((valT_re r2 e6).mv f3.mvM).cur
                  have hy := valT_re r3 e7
                  obtain ⟨b, op, eb, g, _, h1, h2⟩ := dget_rel hv hk e8
                  cases eb
                  refine ⟨op, g, ?_⟩
                  have f4 := (f1.trans f2).trans f3
                  cases oo with
                  | none =>
                    rw [h2 rfl]
                    exact q _ H3 f4 s3 hy
                  | some x =>
                    obtain ⟨w', rfl, hw⟩ := h1 x rfl
                    exact q _ H3 f4 s3 hw
                · cases hg
              · cases hg
            · cases hg
          · cases hg
        · cases hg
      · cases hg
    · cases hg
end

/-! ### built-ins -/
def opLen : List D → Option R
  | [.str x] => if fits x.length then some (.d (.int x.length)) else none
  | [.tup xs] => some (.d (.int xs.length))
  | [.lst xs] => some (.d (.int xs.length))
  | [.frl xs] => some (.d (.int xs.length))
  | [.frt xs] => some (.d (.int xs.length))
  | [.dK xs] => some (.d (.int xs.length))
  | _ => none
def opInt : List D → Option R
  | [.int i] => some (.d (.int i))
  | [.bl b] => some (.d (.int (if b then 1 else 0)))
  | _ => none
def opAbs : List D → Option R
  | [.int i] => some (.d (.int (if i < 0 then -i else i)))
  | _ => none
def intsOf : List D → Option (List Int)
  | [] => some []
  | .int i :: ds => (match intsOf ds with
    | some is => some (i :: is)
    | none => none)
  | _ :: _ => none
def blsOf : List D → Option (List Bool)
  | [] => some []
  | .bl i :: ds => (match blsOf ds with
    | some is => some (i :: is)
    | none => none)
  | _ :: _ => none
def opSum : List D → Option R
  | [.lst xs] => (intsOf xs).map fun is => .d (.int is.sum)
  | _ => none
def opAny : List D → Option R
  | [.lst xs] => (blsOf xs).map fun is => .d (.bl (is.any id))
  | _ => none
def opAll : List D → Option R
  | [.lst xs] => (blsOf xs).map fun is => .d (.bl (is.all id))
  | _ => none
def opTuple : List D → Option R
  | [.lst xs] => some (.d (.tup xs))
  | [.tup xs] => some (.d (.tup xs))
  | _ => none
def opList : List D → Option R
  | [.lst xs] => some (.fr (.lst xs))
  | [.tup xs] => some (.fr (.lst xs))
  | _ => none
theorem intsOf_eq : ∀ {ds : List D} {is : List Int}, intsOf ds = some is → ds = is.map D.int
  | [], _, e => by cases e; rfl
  | d :: ds, is, e => by
    unfold intsOf at e
    split at e <;> rename_i h
    · cases h
    · rename_i i ds'
      cases h
      split at e
      · rename_i js e1
        cases e
        rw [List.map_cons, intsOf_eq e1]
      · cases e
    · cases e
theorem blsOf_eq : ∀ {ds : List D} {is : List Bool}, blsOf ds = some is → ds = is.map D.bl
  | [], _, e => by cases e; rfl
  | d :: ds, is, e => by
    unfold blsOf at e
    split at e <;> rename_i h
    · cases h
    · rename_i i ds'
      cases h
      split at e
      · rename_i js e1
        cases e
        rw [List.map_cons, blsOf_eq e1]
      · cases e
    · cases e
def rLenD (K : PySem.W.Frag) : List V → Hp → VK → Prop := fun xs H Q => (∃ x n, xs = [x] ∧ LenV K x H n ∧ Q (.int n) H) ∨ (∃ a kvs, xs = [.ref a] ∧ Rd H a (.dK kvs) ∧ Q (.int kvs.length) H)
section
variable {X : Cx} {K : PySem.W.Frag}
theorem call_lenD2 : CallR X (.builtin "len") (rLenD X.K) := by
  intro pins s σ H xs us Q I r h
  rcases h with h | ⟨a, kvs, rfl, hr, q⟩
  · exact call_len pins s σ H xs us Q I r h
  · obtain ⟨u, rfl, rx⟩ := vals1 r
    cases rx
    exact d_len I hr fun t s' I' => ⟨.int _, H, I', ⟨_, rfl⟩, q⟩
theorem vcs1 {L : List Addr} {H : Hp} {xs : List V} {d : D} (h : Paired (VC K L H) xs [d]) : ∃ x, xs = [x] ∧ VC K L H x d := by
  cases h with
  | cons h t => cases t; exact ⟨_, rfl, h⟩
theorem vcs2 {L : List Addr} {H : Hp} {xs : List V} {d e : D} (h : Paired (VC K L H) xs [d, e]) : ∃ x y, xs = [x, y] ∧ VC K L H x d ∧ VC K L H y e := by
  cases h with
  | cons h t => cases t with
    | cons h2 t => cases t; exact ⟨_, _, rfl, h, h2⟩
theorem cs_len : CallS K (rLenD K) opLen := by
  intro L H xs ds res Q hx hL h q
  unfold opLen at h
  split at h
  · split at h
    · rename_i hz
      cases h
      obtain ⟨x, rfl, h1⟩ := vcs1 hx
      cases (show x = .str _ from h1)
      exact .inl ⟨_, _, rfl, ⟨hz, rfl⟩, q _ H (Ext.refl H) (.int _)⟩
    · cases h
  · cases h
    obtain ⟨x, rfl, a, vs, rfl, n, e, r⟩ := vcs1 hx
    exact .inl ⟨_, vs.length, rfl, .inr ⟨vs, .inl (.inl e), rfl⟩, by rw [r.length]; exact q _ H (Ext.refl H) (.int _)⟩
  · cases h
    obtain ⟨x, rfl, a, vs, rfl, e, r⟩ := vcs1 hx
    exact .inl ⟨_, vs.length, rfl, .inl ⟨vs, .inl (.inl e), rfl⟩, by rw [r.length]; exact q _ H (Ext.refl H) (.int _)⟩
  · cases h
    obtain ⟨x, rfl, a, vs, rfl, e, r⟩ := vcs1 hx
    exact .inl ⟨_, vs.length, rfl, .inl ⟨vs, e.sq, rfl⟩, by rw [r.length]; exact q _ H (Ext.refl H) (.int _)⟩
  · cases h
    obtain ⟨x, rfl, a, vs, rfl, e, r⟩ := vcs1 hx
    exact .inl ⟨_, vs.length, rfl, .inr ⟨vs, e.sq, rfl⟩, by rw [r.length]; exact q _ H (Ext.refl H) (.int _)⟩
  · cases h
    obtain ⟨x, rfl, a, vs, rfl, e, e1, r⟩ := vcs1 hx
    have hl := congrArg List.length e1
    rw [List.length_map, List.length_map] at hl
    exact .inr ⟨a, vs, rfl, e, by rw [hl]; exact q _ H (Ext.refl H) (.int _)⟩
  · cases h
theorem cs_int : CallS K (fun xs H Q => (∃ i, xs = [.int i] ∧ Q (.int i) H) ∨ ∃ k, xs = [.bl k] ∧ Q (.int (if k then 1 else 0)) H) opInt := by
  intro L H xs ds res Q hx hL h q
  unfold opInt at h
  split at h
  · cases h
    obtain ⟨x, rfl, h1⟩ := vcs1 hx
    cases (show x = .int _ from h1)
    exact .inl ⟨_, rfl, q _ H (Ext.refl H) (.int _)⟩
  · cases h
    obtain ⟨x, rfl, h1⟩ := vcs1 hx
    cases (show x = .bl _ from h1)
    exact .inr ⟨_, rfl, q _ H (Ext.refl H) (.int _)⟩
  · cases h
theorem cs_abs : CallS K (fun xs H Q => ∃ i, xs = [.int i] ∧ Q (.int (if i < 0 then -i else i)) H) opAbs := by
  intro L H xs ds res Q hx hL h q
  unfold opAbs at h
  split at h
  · cases h
    obtain ⟨x, rfl, h1⟩ := vcs1 hx
    cases (show x = .int _ from h1)
    exact ⟨_, rfl, q _ H (Ext.refl H) (.int _)⟩
  · cases h
theorem cs_sum : CallS K (rSum K) opSum := by
  intro L H xs ds res Q hx hL h q
  unfold opSum at h
  split at h
  · rename_i ys
    obtain ⟨is, e, rfl⟩ := Option.map_eq_some_iff.mp h
    obtain ⟨x, rfl, a, vs, rfl, e1, r⟩ := vcs1 hx
    have e2 := intsOf_eq e
    subst e2
    rw [r.ints] at e1
    exact ⟨a, is, rfl, .inl (.inl e1), q _ H (Ext.refl H) (.int _)⟩
  · cases h
theorem cs_any : CallS K (rAny K) opAny := by
  intro L H xs ds res Q hx hL h q
  unfold opAny at h
  split at h
  · rename_i ys
    obtain ⟨is, e, rfl⟩ := Option.map_eq_some_iff.mp h
    obtain ⟨x, rfl, a, vs, rfl, e1, r⟩ := vcs1 hx
    have e2 := blsOf_eq e
    subst e2
    rw [r.bls] at e1
    exact ⟨a, is, rfl, .inl (.inl e1), q _ H (Ext.refl H) (.bl _)⟩
  · cases h
theorem cs_all : CallS K (rAll K) opAll := by
  intro L H xs ds res Q hx hL h q
  unfold opAll at h
  split at h
  · rename_i ys
    obtain ⟨is, e, rfl⟩ := Option.map_eq_some_iff.mp h
    obtain ⟨x, rfl, a, vs, rfl, e1, r⟩ := vcs1 hx
    have e2 := blsOf_eq e
    subst e2
    rw [r.bls] at e1
    exact ⟨a, is, rfl, .inl (.inl e1), q _ H (Ext.refl H) (.bl _)⟩
  · cases h
theorem cs_tuple : CallS K (fun xs H Q => ∃ p ys, xs = [.ref p] ∧ ((SqL K H p ys ∧ ∀ l, H l = none → Q (.ref l) (upd H l (.tup ys))) ∨ (SqT K H p ys ∧ Q (.ref p) H))) opTuple := by
  intro L H xs ds res Q hx hL h q
  unfold opTuple at h
  split at h
  · cases h
    obtain ⟨x, rfl, a, vs, rfl, e1, r⟩ := vcs1 hx
    exact ⟨a, vs, rfl, .inl ⟨.inl (.inl e1), fun p hp => q _ _ (Ext.new hp) (roTup hL hp r)⟩⟩
  · cases h
    obtain ⟨x, rfl, a, vs, rfl, n, e1, r⟩ := vcs1 hx
    exact ⟨a, vs, rfl, .inr ⟨.inl (.inl e1), q _ H (Ext.refl H) (VD.tup n e1 r)⟩⟩
  · cases h
theorem cs_list : CallS K (fun xs H Q => ∃ p ys, xs = [.ref p] ∧ (SqL K H p ys ∨ SqT K H p ys) ∧ ∀ l, H l = none → Q (.ref l) (upd H l (.lst ys))) opList := by
  intro L H xs ds res Q hx hL h q
  unfold opList at h
  split at h
  · cases h
    obtain ⟨x, rfl, a, vs, rfl, e1, r⟩ := vcs1 hx
    exact ⟨a, vs, rfl, .inl (.inl (.inl e1)), fun p hp => q _ _ (Ext.new hp) (roLst hp r)⟩
  · cases h
    obtain ⟨x, rfl, a, vs, rfl, n, e1, r⟩ := vcs1 hx
    exact ⟨a, vs, rfl, .inr (.inl (.inl e1)), fun p hp => q _ _ (Ext.new hp) (roLst hp r)⟩
  · cases h
def opMax2 : List D → Option R
  | [.int i, .int j] => some (.d (.int (max i j)))
  | _ => none
def opMin2 : List D → Option R
  | [.int i, .int j] => some (.d (.int (min i j)))
  | _ => none
theorem cs_max2 : CallS K (fun xs H Q => ∃ i j, xs = [.int i, .int j] ∧ Q (.int (if j > i then j else i)) H) opMax2 := by
  intro L H xs ds res Q hx hL h q
  unfold opMax2 at h
  split at h
  · rename_i i j
    cases h
    obtain ⟨x, y, rfl, h1, h2⟩ := vcs2 hx
    cases (show x = .int _ from h1)
    cases (show y = .int _ from h2)
    refine ⟨i, j, rfl, ?_⟩
    have e : (if j > i then j else i) = max i j := by
      rw [Int.max_def]
      split <;> split <;> omega
    rw [e]
    exact q _ H (Ext.refl H) (.int _)
  · cases h
theorem cs_min2 : CallS K (fun xs H Q => ∃ i j, xs = [.int i, .int j] ∧ Q (.int (if j < i then j else i)) H) opMin2 := by
  intro L H xs ds res Q hx hL h q
  unfold opMin2 at h
  split at h
  · rename_i i j
    cases h
    obtain ⟨x, y, rfl, h1, h2⟩ := vcs2 hx
    cases (show x = .int _ from h1)
    cases (show y = .int _ from h2)
    refine ⟨i, j, rfl, ?_⟩
    have e : (if j < i then j else i) = min i j := by
      rw [Int.min_def]
      split <;> split <;> omega
    rw [e]
    exact q _ H (Ext.refl H) (.int _)
  · cases h
/-- min, max of a list of ints -/
def opMinL : List D → Option R
  | [.lst xs] => (match intsOf xs with
    | some (i :: is) => some (.d (.int (is.foldl min i)))
    | _ => none)
  | _ => none
def opMaxL : List D → Option R
  | [.lst xs] => (match intsOf xs with
    | some (i :: is) => some (.d (.int (is.foldl max i)))
    | _ => none)
  | _ => none
theorem foldl_min (is : List Int) : ∀ i : Int, (is.foldl min i ∈ i :: is) ∧ ∀ y ∈ i :: is, is.foldl min i ≤ y := by
  induction is with
  | nil => intro i; simp
  | cons j is ih =>
    intro i
    obtain ⟨h1, h2⟩ := ih (min i j)
    rw [List.foldl_cons]
    have hm := h2 (min i j) (List.mem_cons_self ..)
    refine ⟨?_, fun y hy => ?_⟩
    · rcases List.mem_cons.mp h1 with e | m
      · rw [e]
        rcases Int.le_total i j with h | h
        · rw [Int.min_eq_left h]; exact List.mem_cons_self ..
        · rw [Int.min_eq_right h]; exact List.mem_cons_of_mem _ (List.mem_cons_self ..)
      · exact List.mem_cons_of_mem _ (List.mem_cons_of_mem _ m)
    · rcases List.mem_cons.mp hy with e | m
      · subst e
        exact Int.le_trans hm (Int.min_le_left _ _)
      · rcases List.mem_cons.mp m with e | m
        · subst e
          exact Int.le_trans hm (Int.min_le_right _ _)
        · exact h2 y (List.mem_cons_of_mem _ m)
theorem foldl_max (is : List Int) : ∀ i : Int, (is.foldl max i ∈ i :: is) ∧ ∀ y ∈ i :: is, y ≤ is.foldl max i := by
  induction is with
  | nil => intro i; simp
  | cons j is ih =>
    intro i
    obtain ⟨h1, h2⟩ := ih (max i j)
    rw [List.foldl_cons]
    have hm := h2 (max i j) (List.mem_cons_self ..)
    refine ⟨?_, fun y hy => ?_⟩
    · rcases List.mem_cons.mp h1 with e | m
      · rw [e]
        rcases Int.le_total i j with h | h
        · rw [Int.max_eq_right h]; exact List.mem_cons_of_mem _ (List.mem_cons_self ..)
        · rw [Int.max_eq_left h]; exact List.mem_cons_self ..
      · exact List.mem_cons_of_mem _ (List.mem_cons_of_mem _ m)
    · rcases List.mem_cons.mp hy with e | m
      · subst e
        exact Int.le_trans (Int.le_max_left _ _) hm
      · rcases List.mem_cons.mp m with e | m
        · subst e
          exact Int.le_trans (Int.le_max_right _ _) hm
        · exact h2 y (List.mem_cons_of_mem _ m)
theorem cs_minL : CallS K (rMin K) opMinL := by
  intro L H xs ds res Q hx hL h q
  unfold opMinL at h
  split at h
  · rename_i ys
    split at h
    · rename_i i is e
      cases h
      obtain ⟨x, rfl, a, vs, rfl, e1, r⟩ := vcs1 hx
      have e2 := intsOf_eq e
      subst e2
      rw [r.ints] at e1
      refine ⟨a, i :: is, rfl, .inl (.inl e1), by simp, fun m hm hmin => ?_⟩
      obtain ⟨h1, h2⟩ := foldl_min is i
      have : m = is.foldl min i := Int.le_antisymm (hmin _ h1) (h2 m hm)
      rw [this]
      exact q _ H (Ext.refl H) (.int _)
    · cases h
  · cases h
theorem cs_maxL : CallS K (rMax K) opMaxL := by
  intro L H xs ds res Q hx hL h q
  unfold opMaxL at h
  split at h
  · rename_i ys
    split at h
    · rename_i i is e
      cases h
      obtain ⟨x, rfl, a, vs, rfl, e1, r⟩ := vcs1 hx
      have e2 := intsOf_eq e
      subst e2
      rw [r.ints] at e1
      refine ⟨a, i :: is, rfl, .inl (.inl e1), by simp, fun m hm hmax => ?_⟩
      obtain ⟨h1, h2⟩ := foldl_max is i
      have : m = is.foldl max i := Int.le_antisymm (h2 m hm) (hmax _ h1)
      rw [this]
      exact q _ H (Ext.refl H) (.int _)
    · cases h
  · cases h
end

/-! ### isinstance -/
def tyD : D → Option String
  | .non => some "NoneType"
  | .bl _ => some "bool"
  | .int _ => some "int"
  | .str _ => some "str"
  | .tup _ => some "tuple"
  | .lst _ => some "list"
  | .dK _ => some "dict"
  | .frt _ => none
  | .frl _ => none
  | .dT _ => none
def gIsi (T : String) (ge : GE) : GE := fun env st => match ge env st with
  | some (r, st1) => (match val st1 r with
    | some x => (match tyD x with
      | some t => (match kitB t T with
        | some b => some (.d (.bl b), st1)
        | none => none)
      | none => none)
    | none => none)
  | none => none
section
variable {X : Cx} {K : PySem.W.Frag} {e : Expr} {ge : GE} {p p2 pos : Pos}
theorem tyX_of {S : List Addr} {H : Hp} {v : V} {d : D} {t : String} (h : VC K S H v d) (e : tyD d = some t) : TyX K H v (.type t) := by
  cases d with
  | non => cases e; cases (show v = .non from h); exact .base .non
  | bl b => cases e; cases (show v = .bl b from h); exact .base (.bl _)
  | int b => cases e; cases (show v = .int b from h); exact .base (.int _)
  | str b => cases e; cases (show v = .str b from h); exact .base (.str _)
  | tup xs => cases e; obtain ⟨a, vs, rfl, n, e1, r⟩ := h; exact .base (.tup e1)
  | lst xs => cases e; obtain ⟨a, vs, rfl, e1, r⟩ := h; exact .base (.lst e1)
  | dK xs =>
    cases e
    obtain ⟨a, vs, rfl, e1, r⟩ := h
    rcases e1 with e1 | ⟨o, e1⟩
    · exact .base (.dK e1)
    · exact .fDict e1
  | frl xs => cases e
  | frt xs => cases e
  | dT xs => cases e
theorem de_isi {T : String} {nT : Str} (hg : Gl X "isinstance") (hm : X.mg "isinstance" = none) (hgT : Gl X nT) (hmT : X.mg nT = none) (hvT : bootBuiltins nT = some (.type T)) (he : DE X e ge)
    (hnT : nT ≠ "__name__" := by decide) (hdT : (nT == ("__debug__" : Str)) = false := by decide)
    (hs : starEach [e, .Name nT p2] X.env = (false, eval e X.env) :: starEach [.Name nT p2] X.env := by rfl) (hs2 : starEach [.Name nT p2] X.env = (false, eval (.Name nT p2) X.env) :: starEach [] X.env := by rfl)
    (hpl : (backTo pos (starEach [.Name nT p2] X.env)).any (·.1) = false := by rfl) : DE X (.Call (.Name "isinstance" p) [e, .Name nT p2] [] pos) (gIsi T ge) :=
  pe_imp (pe_callB call_isi hg hm (by decide +kernel) (pa_cons he (pa_cons (pe_bltn (v := .ty T) hgT hmT hvT rfl hnT hdT) pa_nil hs2) hs) (by decide) (by decide) hs hpl) fun σ H Q h => by
    obtain ⟨M, L, env, st, z, st', er, sr, hg, q⟩ := h
    unfold gIsi at hg
    split at hg
    · rename_i r st1 e1
      split at hg
      · rename_i x e2
        split at hg
        · rename_i t e3
          split at hg
          · rename_i b e4
            cases hg
            refine ⟨M, L, env, st, _, _, er, sr, e1, fun v H1 f1 s1 r1 => ?_⟩
            exact ⟨v, .ty T, .type t, .type T, b, rfl, .ty T, tyX_of (r1.t.cur s1 (val_t.trans e2)) e3, kit_ty e4, q _ H1 f1 s1 (show VD _ _ _ _ _ from .bl b)⟩
          · cases hg
        · cases hg
      · cases hg
    · cases hg
end

/-! ### slices -/
def cutA {α : Type} (xs : List α) (lo hi : Option Int) : List α := (xs.drop (HT.sIx xs.length 0 lo)).take (HT.sIx xs.length xs.length hi - HT.sIx xs.length 0 lo)
def opSl : D → Option Int → Option Int → Option R
  | .lst xs, lo, hi => some (.fr (.lst (cutA xs lo hi)))
  | .tup xs, lo, hi => some (.d (.tup (cutA xs lo hi)))
  | .str x, lo, hi => if fits x.length then some (.d (.str (cutS x lo hi))) else none
  | _, _, _ => none
def gPart : Option GE → Env → Sto → Option (Option Int × Sto)
  | none => fun _ st => some (none, st)
  | some g => fun env st => match g env st with
    | some (.d (.int i), st1) => some (some i, st1)
    | _ => none
def gSl (ge : GE) (gl gh : Option GE) : GE := fun env st => match ge env st with
  | some (r, st1) => (match gPart gl env st1 with
    | some (lo, st2) => (match gPart gh env st2 with
      | some (hi, st3) => (match val st3 r with
        | some x => (opSl x lo hi).map fun z => (z, st3)
        | none => none)
      | none => none)
    | none => none)
  | none => none
def toOf (K : PySem.W.Frag) (g : Option GE) : TO := fun σ H Q => ∃ M L env st o st', ER K M L H σ env ∧ SR K M L H st ∧ gPart g env st = some (o, st') ∧ ∀ H', Fr L H H' → SR K M L H' st' → Q o H'
def DO (X : Cx) (e : Option Expr) (g : Option GE) : Prop := PO X e (toOf X.K g)
section
variable {X : Cx} {K : PySem.W.Frag} {e : Expr} {ge : GE} {pos p2 : Pos} {lo hi : Option Expr} {gl gh : Option GE}
theorem po_imp {e : Option Expr} {t t' : TO} (h : PO X e t) (w : ∀ σ H Q, t' σ H Q → t σ H Q) : PO X e t' := ⟨fun pins s σ H Q I q => h.run pins s σ H Q I (w σ H Q q)⟩
theorem do_none : DO X none none := po_imp po_none fun σ H Q h => by
  obtain ⟨M, L, env, st, o, st', er, sr, hg, q⟩ := h
  cases hg
  exact q H (Fr.refl _ _) sr
theorem do_some (h : DE X e ge) : DO X (some e) (some ge) := po_imp (po_some h) fun σ H Q h => by
  obtain ⟨M, L, env, st, o, st', er, sr, hg, q⟩ := h
  simp only [gPart] at hg
  split at hg
  · rename_i i st1 e1
    cases hg
    refine ⟨M, L, env, st, _, _, er, sr, e1, fun v H1 f1 s1 r1 => ?_⟩
    cases (show VD X.K (M ++ L) H1 v (.int i) from r1)
    exact ⟨i, rfl, q H1 f1 s1⟩
  · cases hg
theorem cut_rel {S : List Addr} {H : Hp} {vs : List V} {ds : List D} (h : VDs K S H vs ds) (lo hi : Option Int) : VDs K S H (cutV vs lo hi) (cutA ds lo hi) := by
  unfold cutV cutA
  rw [h.length]
  exact (h.drop _).take _
theorem cut_whole {α : Type} {xs : List α} {lo hi : Option Int} (h : HT.sIx xs.length 0 lo = 0 ∧ HT.sIx xs.length xs.length hi = xs.length) : cutA xs lo hi = xs := by
  unfold cutA
  rw [h.1, h.2, List.drop_zero, Nat.sub_zero, List.take_length]
def rSlD (K : PySem.W.Frag) : V → Option Int → Option Int → Hp → VK → Prop := fun x lo hi H Q => rSlL K x lo hi H Q ∨ (rSlA K x lo hi H Q ∨ rSlS x lo hi H Q)
theorem de_slice (he : DE X e ge) (hl : DO X lo gl) (hh : DO X hi gh) : DE X (.Subscript e (.Slice lo hi none p2) pos) (gSl ge gl gh) :=
  pe_imp (pe_slice (SlR.or sl_list (SlR.or sl_tupA sl_str)) he hl hh) fun σ H Q h => by
    obtain ⟨M, L, env, st, z, st', er, sr, hg, q⟩ := h
    unfold gSl at hg
    split at hg
    · rename_i r st1 e1
      split at hg
      · rename_i l st2 e2
        split at hg
        · rename_i u st3 e3
          split at hg
          · rename_i x e4
            obtain ⟨w, e5, e6⟩ := Option.map_eq_some_iff.mp hg
            cases e6
            refine ⟨M, L, env, st, _, _, er, sr, e1, fun v H1 f1 s1 r1 => ?_⟩
            refine ⟨M, L, env, st1, _, _, er.fr f1, s1, e2, fun H2 f2 s2 => ?_⟩
            refine ⟨M, L, env, st2, _, _, er.fr (f1.trans f2), s2, e3, fun H3 f3 s3 => ?_⟩
            have hv := (r1.t.fr (f2.trans f3)).cur s3 (val_t.trans e4)
            have f4 := (f1.trans f2).trans f3
            unfold opSl at e5
            split at e5
            · cases e5
              obtain ⟨a, vs, rfl, e, rr⟩ := hv
              exact .inl ⟨a, vs, rfl, .inl (.inl e), fun p hp => q _ _ (f4.trans (Ext.new hp).fr) (s3.ext (Ext.new hp)) (((roLst hp (cut_rel rr _ _)).rv (Ext.new hp) s3).back f4 sr s3)⟩
            · cases e5
              obtain ⟨a, vs, rfl, n, e, rr⟩ := hv
              refine .inr (.inl ⟨a, vs, rfl, .inl (.inl e), fun hw => ?_, fun _ p hp => ?_⟩)
              · rw [rr.length] at hw
                rw [cut_whole hw] at q
                exact q _ H3 f4 s3 (show VD _ _ _ _ _ from .tup n e rr)
              · exact q _ _ (f4.trans (Ext.new hp).fr) (s3.ext (Ext.new hp)) (show VD _ _ _ _ _ from roTup (fun a ha => s3.thr ha) hp (cut_rel rr _ _))
            · split at e5
              · rename_i hz
                cases e5
                exact .inr (.inr ⟨_, hv, hz, q _ H3 f4 s3 (show VD _ _ _ _ _ from .str _)⟩)
              · cases e5
            · cases e5
          · cases hg
        · cases hg
      · cases hg
    · cases hg
end

/-! ### list(range(..)), tuple(range(..)) -/
def gLstR (gi : GI) : GE := fun env st => match gi env st with
  | some ((xs, _), st1) => if fits xs.length then some (.fr (.lst xs), st1) else none
  | none => none
def gTupR (gi : GI) : GE := fun env st => match gi env st with
  | some ((xs, _), st1) => if fits xs.length then some (.d (.tup xs), st1) else none
  | none => none
theorem rgD_len (a : Int) (n : Nat) : (rgD a n).length = n := by unfold rgD; rw [List.length_map, List.length_range]
section
variable {X : Cx} {K : PySem.W.Frag} {a b : Expr} {ga gb : GE} {p p2 pos pos2 : Pos}
theorem vds_rg {S : List Addr} {H : Hp} (a b : Int) : VDs K S H (rgV a b) (rgD a (b - a).toNat) := by
  unfold rgV rgD
  generalize List.range (b - a).toNat = l
  induction l with
  | nil => exact .nil
  | cons x l ih => exact .cons (.int _) ih
theorem rg1_of {go : GE} {tk : (St : L2.St) → Hp → VK → Prop} (mk : GI → GE) (hmk : mk = gLstR ∨ mk = gTupR) : True := trivial
theorem fits24 {n : Nat} (h : fits n) : n ≤ 2 ^ 24 := by
  have h2 : n ≤ sizeLine := h
  rw [sizeLine_eq] at h2
  exact h2
theorem de_lstR1 (hc : X.calm = true) (hg : Gl X "range") (hm : X.mg "range" = none) (hgl : Gl X "list") (hml : X.mg "list" = none) (ha : DE X a ga) (na : starEach [a] X.env = (false, eval a X.env) :: starEach [] X.env := by rfl)
    (nb : starEach [.Call (.Name "range" p) [a] [] pos] X.env = (false, eval (.Call (.Name "range" p) [a] [] pos) X.env) :: starEach [] X.env := by rfl) : DE X (.Call (.Name "list" p2) [.Call (.Name "range" p) [a] [] pos] [] pos2) (gLstR (gRng1 ga)) :=
  pe_imp (pe_listRg hc hgl hml (prg_1 hg hm ha na) nb) fun σ H Q h => by
    obtain ⟨M, L, env, st, z, st', er, sr, h, q⟩ := h
    unfold gLstR gRng1 at h
    split at h
    · rename_i xs lk st1 e1
      split at e1
      · rename_i j st2 e2
        split at e1
        · rename_i hj
          cases e1
          split at h
          · rename_i hz
            cases h
            rw [rgD_len] at hz
            refine ⟨M, L, env, st, _, _, er, sr, e2, fun v H1 f1 s1 r1 => ?_⟩
            cases (show VD X.K (M ++ L) H1 v (.int j) from r1)
            refine ⟨j, rfl, ⟨by omega, by omega, hj.1, hj.2, by rw [Int.sub_zero]; exact fits24 hz⟩, fun r hr => ?_⟩
            have rr := vds_rg (K := X.K) (S := M ++ L) (H := H1) 0 j
            rw [Int.sub_zero] at rr
            exact q _ _ (f1.trans (Ext.new hr).fr) (s1.ext (Ext.new hr)) (((roLst hr rr).rv (Ext.new hr) s1).back f1 sr s1)
          · cases h
        · cases e1
      · cases e1
    · cases h
theorem de_lstR2 (hc : X.calm = true) (hg : Gl X "range") (hm : X.mg "range" = none) (hgl : Gl X "list") (hml : X.mg "list" = none) (ha : DE X a ga) (hb : DE X b gb) (na : starEach [a, b] X.env = (false, eval a X.env) :: starEach [b] X.env := by rfl)
    (nb : starEach [b] X.env = (false, eval b X.env) :: starEach [] X.env := by rfl) (hp : (backTo pos (starEach [b] X.env)).any (·.1) = false := by rfl)
    (nc : starEach [.Call (.Name "range" p) [a, b] [] pos] X.env = (false, eval (.Call (.Name "range" p) [a, b] [] pos) X.env) :: starEach [] X.env := by rfl) : DE X (.Call (.Name "list" p2) [.Call (.Name "range" p) [a, b] [] pos] [] pos2) (gLstR (gRng2 ga gb)) :=
  pe_imp (pe_listRg hc hgl hml (prg_2 hg hm ha hb na nb hp) nc) fun σ H Q h => by
    obtain ⟨M, L, env, st, z, st', er, sr, h, q⟩ := h
    unfold gLstR gRng2 at h
    split at h
    · rename_i xs lk st1 e1
      split at e1
      · rename_i i st2 e2
        split at e1
        · rename_i j st3 e3
          split at e1
          · rename_i hj
            cases e1
            split at h
            · rename_i hz
              cases h
              rw [rgD_len] at hz
              refine ⟨M, L, env, st, _, _, er, sr, e2, fun v H1 f1 s1 r1 => ?_⟩
              cases (show VD X.K (M ++ L) H1 v (.int i) from r1)
              refine ⟨M, L, env, st2, _, _, er.fr f1, s1, e3, fun v H2 f2 s2 r2 => ?_⟩
              cases (show VD X.K (M ++ L) H2 v (.int j) from r2)
              refine ⟨i, j, rfl, rfl, ⟨hj.1.1, hj.1.2, hj.2.1, hj.2.2, fits24 hz⟩, fun r hr => ?_⟩
              exact q _ _ ((f1.trans f2).trans (Ext.new hr).fr) (s2.ext (Ext.new hr)) (((roLst hr (vds_rg i j)).rv (Ext.new hr) s2).back (f1.trans f2) sr s2)
            · cases h
          · cases e1
        · cases e1
      · cases e1
    · cases h
theorem de_tupR1 (hc : X.calm = true) (hg : Gl X "range") (hm : X.mg "range" = none) (hgl : Gl X "tuple") (hml : X.mg "tuple" = none) (ha : DE X a ga) (na : starEach [a] X.env = (false, eval a X.env) :: starEach [] X.env := by rfl)
    (nb : starEach [.Call (.Name "range" p) [a] [] pos] X.env = (false, eval (.Call (.Name "range" p) [a] [] pos) X.env) :: starEach [] X.env := by rfl) : DE X (.Call (.Name "tuple" p2) [.Call (.Name "range" p) [a] [] pos] [] pos2) (gTupR (gRng1 ga)) :=
  pe_imp (pe_tupRg hc hgl hml (prg_1 hg hm ha na) nb) fun σ H Q h => by
    obtain ⟨M, L, env, st, z, st', er, sr, h, q⟩ := h
    unfold gTupR gRng1 at h
    split at h
    · rename_i xs lk st1 e1
      split at e1
      · rename_i j st2 e2
        split at e1
        · rename_i hj
          cases e1
          split at h
          · rename_i hz
            cases h
            rw [rgD_len] at hz
            refine ⟨M, L, env, st, _, _, er, sr, e2, fun v H1 f1 s1 r1 => ?_⟩
            cases (show VD X.K (M ++ L) H1 v (.int j) from r1)
            refine ⟨j, rfl, ⟨by omega, by omega, hj.1, hj.2, by rw [Int.sub_zero]; exact fits24 hz⟩, fun r hr => ?_⟩
            have rr := vds_rg (K := X.K) (S := M ++ L) (H := H1) 0 j
            rw [Int.sub_zero] at rr
            exact q _ _ (f1.trans (Ext.new hr).fr) (s1.ext (Ext.new hr)) (show VD _ _ _ _ _ from roTup (fun a ha => s1.thr ha) hr rr)
          · cases h
        · cases e1
      · cases e1
    · cases h
theorem de_tupR2 (hc : X.calm = true) (hg : Gl X "range") (hm : X.mg "range" = none) (hgl : Gl X "tuple") (hml : X.mg "tuple" = none) (ha : DE X a ga) (hb : DE X b gb) (na : starEach [a, b] X.env = (false, eval a X.env) :: starEach [b] X.env := by rfl)
    (nb : starEach [b] X.env = (false, eval b X.env) :: starEach [] X.env := by rfl) (hp : (backTo pos (starEach [b] X.env)).any (·.1) = false := by rfl)
    (nc : starEach [.Call (.Name "range" p) [a, b] [] pos] X.env = (false, eval (.Call (.Name "range" p) [a, b] [] pos) X.env) :: starEach [] X.env := by rfl) : DE X (.Call (.Name "tuple" p2) [.Call (.Name "range" p) [a, b] [] pos] [] pos2) (gTupR (gRng2 ga gb)) :=
  pe_imp (pe_tupRg hc hgl hml (prg_2 hg hm ha hb na nb hp) nc) fun σ H Q h => by
    obtain ⟨M, L, env, st, z, st', er, sr, h, q⟩ := h
    unfold gTupR gRng2 at h
    split at h
    · rename_i xs lk st1 e1
      split at e1
      · rename_i i st2 e2
        split at e1
        · rename_i j st3 e3
          split at e1
          · rename_i hj
            cases e1
            split at h
            · rename_i hz
              cases h
              rw [rgD_len] at hz
              refine ⟨M, L, env, st, _, _, er, sr, e2, fun v H1 f1 s1 r1 => ?_⟩
              cases (show VD X.K (M ++ L) H1 v (.int i) from r1)
              refine ⟨M, L, env, st2, _, _, er.fr f1, s1, e3, fun v H2 f2 s2 r2 => ?_⟩
              cases (show VD X.K (M ++ L) H2 v (.int j) from r2)
              refine ⟨i, j, rfl, rfl, ⟨hj.1.1, hj.1.2, hj.2.1, hj.2.2, fits24 hz⟩, fun r hr => ?_⟩
              exact q _ _ ((f1.trans f2).trans (Ext.new hr).fr) (s2.ext (Ext.new hr)) (show VD _ _ _ _ _ from roTup (fun a ha => s2.thr ha) hr (vds_rg i j))
            · cases h
          · cases e1
        · cases e1
      · cases e1
    · cases h
end
end DL

set_option Elab.async false
set_option linter.all false
set_option maxRecDepth 100000
set_option maxHeartbeats 4000000
/-! sorted: lists, tuples, dicts -/
namespace DL
open PySem PySem.Spec PySem.Calls PyProof.Rows L2 PySem.W

def srtB (ds : List D) : Bool :=
  ds.all (fun d => shp d && ds.all fun e => alike (py d) (py e)) && (ds.all (fun d => match py d with | .tuple (_ :: _) => true | _ => false) || ds.all (fun d => match py d with | .tuple _ => false | .none => false | _ => true))
/-- the order of data -/
noncomputable def leD (d e : D) : Bool := dataLe false py d e
noncomputable def srtP (ps : List (V × D)) : List (V × D) := ps.mergeSort (dataLe false fun p => py p.2)
theorem srtP_snd (ps : List (V × D)) : (srtP ps).map (·.2) = (ps.map (·.2)).mergeSort leD :=
  List.map_mergeSort fun _ _ _ _ => rfl
theorem srtP_mem {ps : List (V × D)} {p : V × D} : p ∈ srtP ps ↔ p ∈ ps := (List.mergeSort_perm _ _).mem_iff
theorem each_srt {A : Around} {ps : List (V × D)} (h : srtB (ps.map (·.2)) = true) (hu : A.units + 66 < cLine) :
    AllAlike (ps.map fun p => py p.2) ∧ PySem.W.Sortable (ps.map fun p => py p.2) ∧ (∀ p ∈ ps, A.units + 2 + (py p.2).depth < cLine) ∧ ∀ p ∈ ps, (py p.2).canLay0 = true := by
  unfold srtB at h
  rw [Bool.and_eq_true, Bool.or_eq_true] at h
  obtain ⟨h1, h2⟩ := h
  simp only [List.all_map, List.all_eq_true, Function.comp, Bool.and_eq_true, List.mem_map, forall_exists_index, and_imp, forall_apply_eq_imp_iff₂] at h1
  refine ⟨fun d hd e he => ?_, ?_, fun p hp => ?_, fun p hp => shp_lay (h1 p hp).1⟩
  · obtain ⟨p, hp, rfl⟩ := List.mem_map.mp hd
    obtain ⟨q, hq, rfl⟩ := List.mem_map.mp he
    exact (h1 p hp).2 q hq
  · rcases h2 with h2 | h2
    · refine .inl fun d hd => ?_
      obtain ⟨p, hp, rfl⟩ := List.mem_map.mp hd
      have := List.all_eq_true.mp h2 p.2 (List.mem_map.mpr ⟨p, hp, rfl⟩)
      split at this
      · rename_i x r e; exact ⟨x, r, e⟩
      · cases this
    · refine .inr fun d hd => ?_
      obtain ⟨p, hp, rfl⟩ := List.mem_map.mp hd
      have := List.all_eq_true.mp h2 p.2 (List.mem_map.mpr ⟨p, hp, rfl⟩)
      split at this
      · cases this
      · cases this
      · rename_i h3 h4; exact ⟨h4, h3⟩
  · have := (h1 p hp).1
    unfold shp SeqAt.shaped at this
    rw [Bool.and_eq_true, decide_eq_true_eq] at this
    omega
section
variable {X : Cx} {K : PySem.W.Frag}
theorem each_rel : ∀ {ps : List (V × D)} {us : List Value}, Vals (ps.map (·.1)) us → EachIs (fun u (p : V × D) => RelV p.1 u) us ps
  | [], _, h => by cases h; exact .nil
  | p :: ps, _, h => by cases h with | cons h1 h2 => exact .cons h1 (each_rel h2)
theorem rel_each : ∀ {ps : List (V × D)} {us : List Value}, EachIs (fun u (p : V × D) => RelV p.1 u) us ps → Vals (ps.map (·.1)) us
  | [], _, h => by cases h; exact .nil
  | p :: ps, _, h => by cases h with | cons h1 h2 => exact .cons h1 (rel_each h2)
theorem each_reads {pins : List (Addr × Obj)} {σ : L2.St} {H : Hp} {s : Shared} (I : Inv X pins σ H s) : ∀ {ps : List (V × D)} {us : List Value}, Vals (ps.map (·.1)) us → (∀ p ∈ ps, Dp X.K H p.1 (py p.2)) → EachIs (fun u (p : V × D) => ∃ as, Reads s.heap u (py p.2) as) us ps
  | [], _, h, _ => by cases h; exact .nil
  | p :: ps, _, h, k => by
    cases h with
    | cons h1 h2 => exact .cons (Dp.reads I _ _ _ (k p List.mem_cons_self) h1) (each_reads I h2 fun q hq => k q (List.mem_cons_of_mem _ hq))
/-- sorted(list or tuple) -/
def rSrtL (K : PySem.W.Frag) : List V → Hp → VK → Prop := fun vs H Q => ∃ (a : Addr) (ps : List (V × D)), vs = [V.ref a] ∧ (SqL K H a (ps.map (·.1)) ∨ SqT K H a (ps.map (·.1))) ∧ (∀ p ∈ ps, Dp K H p.1 (py p.2)) ∧ srtB (ps.map (·.2)) = true ∧
  ∀ (p : Addr), H p = none → Q (.ref p) (upd H p (.lst ((srtP ps).map (·.1))))
theorem collect_tuple {prog : Program} {w : World} {A : Around} {E : Value → Shared → Prop} {s : Shared} {l : Addr} {vs : List Value} {Q : List Value → Shared → Prop} (hl : IsTup s.heap l vs.toArray)
    (h : Q vs { s with heap := (s.heap.push (seqObj "list" #[] 0)).update s.heap.objs.size (Obj.mapSeq (· ++ vs.toArray)) }) (hsz : vs.length ≤ sizeLine := by size_fits) :
    wpAny (model prog w) A (collect (.ref l)) Q E s := by
  obtain ⟨o, ho, hc, n, hd⟩ := id hl
  unfold collect
  refine wpAny_bind (wpAny_runValue (codeAny_builtin entry_proto_collect' ?_))
  show wpAny _ _ (do again (.builtin "list.__iadd__" ⟨[← newList [], .ref l], []⟩)) _ _ s
  refine wpAny_bind (wpAny_newList (wpAny_pure ⟨Code.quiet_builtin _ (by decide +kernel), codeAny_builtin entry_list_iadd' ?_⟩))
  show wpAny _ _ (Builtin.List.listExtendWith (.ref s.heap.objs.size) (.ref l) (.ref s.heap.objs.size)) _ _ { s with heap := s.heap.push (seqObj "list" #[] 0) }
  unfold Builtin.List.listExtendWith
  have ho' : (s.heap.push (seqObj "list" #[] 0)).get? l = some o := Heap.get?_push_of_some _ ho
  refine wpAny_bind (wpAny_typeOf (T := "tuple") ⟨o, ho', hc⟩ ?_)
  have ht : (Value.type "tuple" == Value.type "tuple") = true := by rfl
  rw [if_pos (by rw [ht]; simp)]
  refine wpAny_bind (listItems_at ho' hd ?_)
  refine wpAny_bind (listItems_at (xs := #[]) (n := 0) (Heap.get?_push_size _ rfl) rfl ?_)
  rw [if_neg (by simp)]
  refine wpAny_bind (listUpdate_at (xs := #[]) (n := 0) (Heap.get?_push_size _ rfl) rfl ?_ (Nat.zero_le _) (by show (#[] ++ vs.toArray).size ≤ sizeLine + 1; simp only [Array.size_append, List.size_toArray, List.length_nil]; omega))
  refine wpAny_pure ?_
  show wpAny (model prog w) A (do
      let o ← load s.heap.objs.size
      match o.data with
      | .seq xs _ => pure xs.toList
      | _ => unsupported "internal:collect") Q E { s with heap := (s.heap.push (seqObj "list" #[] 0)).update s.heap.objs.size (Obj.mapSeq (· ++ vs.toArray)) }
  refine wpAny_bind (wpAny_load (get?_update_seq (Heap.get?_push_size _ rfl) _) ?_)
  show wpAny _ _ (pure ((#[] : Array Value) ++ vs.toArray).toList) Q E _
  rw [show ((#[] : Array Value) ++ vs.toArray).toList = vs by simp]
  exact wpAny_pure h
theorem sorted_tup {β : Type} {prog : Program} {w : World} {A : Around} {E : Value → Shared → Prop} {s : Shared} {l : Addr} {vs : List Value} {bs : List β} {enc : β → PyData} {R : Value → β → Prop} {Q : Value → Shared → Prop} (hl : IsTup s.heap l vs.toArray) (e : EachIs R vs bs) (er : EachIs (fun v b => ∃ as, Reads s.heap v (enc b) as) vs bs) (hal : AllAlike (bs.map enc)) (hk : PySem.W.Sortable (bs.map enc)) (hL : bs.length ≤ sizeLine)
    (hu : ∀ b, b ∈ bs → A.units + 2 + (enc b).depth < cLine) (h : ∀ out, out.length = bs.length → EachIs R out (bs.mergeSort (dataLe false enc)) → Q (.ref (s.heap.objs.size + 1)) { s with heap := sortedAll s.heap vs (List.toArray out) }) :
    wpAny (model prog w) A (call (.builtin "sorted") [.ref l]) Q E s := by
  have er' : EachIs (fun v b => ∃ as, Reads (sortingHeap (copyHeap s.heap vs) (s.heap.objs.size + 1) vs) v (enc b) as) vs bs := er.mono fun _ _ ⟨as, r⟩ => ⟨as, PyProof.Rows.Reads.keeps (fun _ _ => sorting_copy_old) r⟩
  have S : SortsAt prog w A.in1.in1 _ _ vs := SortsAt.data (s := { s with heap := sortingHeap (copyHeap s.heap vs) (s.heap.objs.size + 1) vs }) (each_map (R := fun v d => ∃ as, Reads (sortingHeap (copyHeap s.heap vs) (s.heap.objs.size + 1) vs) v d as) enc er') hal hk (bound_map hu)
  have hL' : vs.length ≤ sizeLine := by rw [e.length]; exact hL
  refine call_function_entry_kw kind_sorted plain_sorted entry_sorted (args_sorted1 _) ?_
  unfold Builtin.«sorted»
  refine wpAny_bind (m := checkCount "sorted" 1 1 _) (wpAny_pure ?_)
  refine wpAny_bind (collect_tuple hl ?_ hL')
  refine wpAny_bind (wpAny_newList ?_ hL')
  have hsz : ((s.heap.push (seqObj "list" #[] 0)).update s.heap.objs.size (Obj.mapSeq (· ++ vs.toArray))).objs.size = s.heap.objs.size + 1 := by
    rw [Heap.size_update, size_push']
  show wpAny _ _ _ _ _ { s with heap := copyHeap s.heap vs }
  rw [hsz]
  refine wpAny_bind (wpAny_holding (wpAny_call_entry_kw slot_list_sort ⟨_, copyHeap_at s.heap vs, rfl⟩ entry_list_sort ?body (args_list_sort _)))
  case body =>
    show wpAny (model prog w) A.in1.in1 (Builtin.«list.sort» ⟨[.ref (s.heap.objs.size + 1)], []⟩) _ _ _
    refine list_sort_vals (s := { s with heap := copyHeap s.heap vs }) (copyHeap_at s.heap vs) S hL' ⟨_, rfl, wpAny_pure ⟨_, rfl, ?_⟩⟩
    exact h _ (by rw [sortVals_length false rfl]; exact e.length) (sortVals_data false e er' hal)
theorem cr_srtL (hu : X.A.units + 66 < cLine) : CallR X (.builtin "sorted") (rSrtL X.K) := by
  intro pins s σ H vs us Q I r h
  obtain ⟨a, ps, rfl, hs, hd, hb, q⟩ := h
  obtain ⟨k1, k2, k3, k4⟩ := each_srt hb hu
  have fin : ∀ {its : List Value}, Vals (ps.map (·.1)) its → ∀ out : List Value, out.length = ps.length → (ps.map (·.1)).length ≤ sizeLine → EachIs (fun u (p : V × D) => RelV p.1 u) out (ps.mergeSort (dataLe false fun p => py p.2)) → ∃ x' H', Inv X pins σ H' { s with heap := sortedAll s.heap its out.toArray } ∧ RelV x' (.ref (s.heap.objs.size + 1)) ∧ Q x' H' := by
    intro its rv out ho hz he
    obtain ⟨ep, he'⟩ := PyProof.Rows.sortedAll_at s.heap its out.toArray
    have hlen : ((srtP ps).map (·.1)).length ≤ sizeLine := by
      rw [List.length_map, srtP, List.length_mergeSort]
      rw [List.length_map] at hz
      exact hz
    exact ⟨.ref _, upd H (s.heap.objs.size + 1) (.lst ((srtP ps).map (·.1))), I.laid (t' := s.toks) (fun _ _ => PyProof.Rows.sortedAll_old) (Nat.le_succ _) ⟨hlen, out, ep, rel_each he, he'⟩, rfl, q _ (I.hok.fresh (Nat.le_succ _))⟩
  rcases hs with hs | hs
  · obtain ⟨its, rv, hl, hz⟩ := I.list hs
    rw [Vals.ref1 r]
    exact sorted_data (R := fun u (p : V × D) => RelV p.1 u) (enc := fun p : V × D => py p.2) hl.isList (each_rel rv) (each_reads I rv hd) k1 k2 (by rw [List.length_map] at hz; exact hz) k3 fun out ho he => fin rv out ho hz he
  · obtain ⟨its, rv, hl, hz⟩ := I.tuple hs
    rw [Vals.ref1 r]
    exact sorted_tup (R := fun u (p : V × D) => RelV p.1 u) (enc := fun p : V × D => py p.2) hl (each_rel rv) (each_reads I rv hd) k1 k2 (by rw [List.length_map] at hz; exact hz) k3 fun out ho he => fin rv out ho hz he
end
end DL

set_option Elab.async false
set_option linter.all false
set_option maxRecDepth 100000
set_option maxHeartbeats 4000000
/-! sets of ints and texts, made of a row and sorted at once -/
namespace DL
open PySem PySem.Spec PySem.Calls PyProof.Rows L2 PySem.W

def kyOf (v : Value) : Key := match v with
  | .int k _ => .inl k
  | .str x _ => .inr x
  | _ => .inl 0
def kyE (e : Int × Value) : Key := kyOf e.2
def OkE (w : World) (e : Int × Value) : Prop := keyIs (kyE e) e.2 = true ∧ e.1 = keyH w (kyE e)
theorem kyOf_is {k : Key} {v : Value} (h : keyIs k v = true) : kyOf v = k := by
  rcases keyIs_shape h with ⟨i, t, rfl, rfl⟩ | ⟨x, t, rfl, rfl⟩ <;> rfl
theorem scan_is {k : Key} {v : Value} (h : keyIs k v = true) : v.scannable = true := by
  rcases keyIs_shape h with ⟨i, t, rfl, rfl⟩ | ⟨x, t, rfl, rfl⟩ <;> rfl
/-- the set at a: S its members, n their number -/
def SetM (w : World) (h : Heap) (a : Addr) (S : Key → Prop) (n : Nat) : Prop :=
  ∃ o es ep t, h.get? a = some o ∧ o.ExactSet ∧ o.data = .set es ep t ∧ (∀ e ∈ es.toList, OkE w e) ∧ (es.toList.map kyE).Nodup ∧ (∀ k, S k ↔ k ∈ es.toList.map kyE) ∧
    es.size < scanBound ∧ t.fits es.size = true ∧ es.size = n ∧ Ris t.place.toList ∧ (w.params.followText "set-order" = true ∨ t.led = true)
section
variable {P : Program} {w : World} {h h' : Heap} {a : Addr} {S S' : Key → Prop} {n : Nat}
theorem SetM.at (R : SetM w h a S n) (k : ∀ o, h.get? a = some o → h'.get? a = some o) : SetM w h' a S n := let ⟨o, es, ep, t, ho, r⟩ := R; ⟨o, es, ep, t, k o ho, r⟩
theorem SetM.same (R : SetM w h a S n) (e : ∀ k, S' k ↔ S k) : SetM w h a S' n := by
  have q : S' = S := funext fun k => propext (e k)
  rw [q]; exact R
theorem okE_el {l : List (Int × Value)} (g : ∀ e ∈ l, OkE w e) : ElemsOf (mixKind P w) l := fun e he => ⟨⟨kyE e, (g e he).1, (g e he).2⟩, scan_is (g e he).1⟩
theorem okE_is {e : Int × Value} (g : OkE w e) (k : Key) : (mixKind P w).is k e.2 = true ↔ kyE e = k :=
  ⟨fun q => kyOf_is q, fun q => q ▸ g.1⟩
theorem okE_mem {l : List (Int × Value)} (g : ∀ e ∈ l, OkE w e) (k : Key) : k ∈ l.map kyE ↔ ∃ e ∈ l, (mixKind P w).is k e.2 = true := by
  rw [List.mem_map]
  exact ⟨fun ⟨e, he, q⟩ => ⟨e, he, (okE_is (g e he) k).2 q⟩, fun ⟨e, he, q⟩ => ⟨e, he, (okE_is (P := P) (g e he) k).1 q⟩⟩
end
section
variable {P : Program} {w : World} {A : Around} {E : Value → Shared → Prop} {s : Shared} {a : Addr} {S : Key → Prop} {n : Nat}
theorem setM_tail {g : Bool → Sem Unit} (hg : ∀ (b : Bool) (s₁ : Shared) (Z : Unit → Shared → Prop), Z () s₁ → wpAny (model P w) A (g b) Z E s₁)
    {o : Obj} {es : Array (Int × Value)} {ep : Nat} {t : SetTable} (ho : s.heap.get? a = some o) (hex : o.ExactSet) (hd : o.data = .set es ep t)
    {fs : Array (Int × Value)} {t2 : SetTable} (g1 : ∀ e ∈ fs.toList, OkE w e) (nd1 : (fs.toList.map kyE).Nodup) (m1 : ∀ k, S k ↔ k ∈ fs.toList.map kyE)
    (hb1 : fs.size < scanBound) (hf2 : t2.fits fs.size = true) (hr : Ris t2.place.toList) (hl : w.params.followText "set-order" = true ∨ t2.led = true) {wasDummy : Bool} {R : Option Bool → Shared → Prop}
    (hR : ∀ h', Heap.SameBut a s.heap h' → SetM w h' a S fs.size → R (some true) { s with heap := h' }) :
    wpAny (model P w) A (do
        storeSet a fs t2
        if (!wasDummy && t2.tooFull) = true then do
            g (relayAll t2 fs (SetTable.grown fs.size)).2.2
            storeSet a (relayAll t2 fs (SetTable.grown fs.size)).1 (relayAll t2 fs (SetTable.grown fs.size)).2.1
            pure (some true)
          else pure (some true)) R E s := by
  refine wpAny_bind (wpAny_storeSet_of ho hd ?_ (fits_of_scanBound hb1))
  have oa := store_at (es' := fs) (t' := t2) ho hd
  have sa := Heap.SameBut.update s.heap a (Obj.putSet fs t2)
  split
  · have pm := relayAll_perm t2 fs (SetTable.grown fs.size)
    have hf3 := relayAll_fits t2 fs (SetTable.grown fs.size)
    have hr3 := relayAll_ris t2 fs (SetTable.grown fs.size)
    have hl3 := relayAll_led t2 fs (SetTable.grown fs.size)
    generalize relayAll t2 fs (SetTable.grown fs.size) = Z at pm hf3 hr3 hl3 ⊢
    obtain ⟨gs, t3, gave⟩ := Z
    dsimp only at pm hf3 hr3 hl3 ⊢
    have hz : gs.size = fs.size := by rw [← Array.length_toList, pm.length_eq, Array.length_toList]
    have hb2 : gs.size < scanBound := hz ▸ hb1
    refine wpAny_bind (hg _ _ _ (wpAny_bind (wpAny_storeSet_of oa rfl ?_ (fits_of_scanBound hb2))))
    have ob := store_at (es' := gs) (t' := t3) oa rfl
    exact wpAny_pure (hR _ (sa.trans (Heap.SameBut.update _ a _)) ⟨_, gs, _, t3, ob, hex, rfl, fun e he => g1 e (pm.mem_iff.mp he), (pm.map kyE).nodup_iff.mpr nd1, fun k => (m1 k).trans (pm.map kyE).mem_iff.symm, hb2, hf3, hz, hr3,
      hl.imp id fun z => hl3 ▸ z⟩)
  · exact wpAny_pure (hR _ sa ⟨_, fs, _, t2, oa, hex, rfl, g1, nd1, m1, hb1, hf2, rfl, hr, hl⟩)
theorem setM_add {k : Key} {v : Value} {Q : Bool → Shared → Prop} (R : SetM w s.heap a S n) (hv : keyIs k v = true) (room : n + 1 < scanBound)
    (hQ : ∀ b h' m, m ≤ n + 1 → Heap.SameBut a s.heap h' → SetM w h' a (fun j => S j ∨ j = k) m → Q b { s with heap := h' }) :
    wpAny (model P w) A (setAddHashed a v ((mixKind P w).hash k)) Q E s := by
  obtain ⟨o, es, ep, t, ho, hex, hd, g, nd, hm, hb, hf, hn, hr, hl⟩ := R
  have hkey : (mixKind P w).is k v = true := hv
  have hsc : v.scannable = true := scan_is hv
  have hel : ElemsOf (mixKind P w) es.toList := okE_el g
  unfold setAddHashed setAddHashedIn
  refine wpAny_holding (wpAny_bind (wpAny_setState_of ho hd hf ?_))
  dsimp only
  rw [byScan_of hsc hb hel]
  simp only [↓reduceIte]
  unfold setAddByScan
  refine wpAny_bind (wpAny_bind (wpAny_rule ?_))
  refine wpAny_bind (wpAny_setScan_of hkey ho hd hf hel ?_)
  cases hfi : List.findIdx? (fun e => (mixKind P w).is k e.2) es.toList with
  | some j =>
    obtain ⟨hj, pj, _⟩ := List.findIdx?_eq_some_iff_getElem.mp hfi
    have hSk : S k := (hm k).2 ((okE_mem (P := P) (w := w) g k).2 ⟨es.toList[j], List.getElem_mem hj, pj⟩)
    exact wpAny_pure (wpAny_pure (hQ _ s.heap n (Nat.le_succ n) (Heap.SameBut.refl a s.heap) ⟨o, es, ep, t, ho, hex, hd, g, nd, fun i => ⟨fun z => (hm i).1 (z.elim id fun e => e ▸ hSk), fun z => .inl ((hm i).2 z)⟩, hb, hf, hn, hr, hl⟩))
  | none =>
    dsimp only
    have hnk : k ∉ es.toList.map kyE := fun z => by
      obtain ⟨e, he, q⟩ := (okE_mem (P := P) (w := w) g k).1 z
      have c := List.findIdx?_eq_none_iff.mp hfi e he
      rw [q] at c; cases c
    have gw : ∀ (b : Bool) {s₁ : Shared} {Z : Unit → Shared → Prop}, Z () s₁ → wpAny (model P w) A (match b with | true => rule "set.scan.the-table-gave-way" | false => pure ()) Z E s₁ :=
      fun b s₁ Z q => by cases b <;> first | exact wpAny_pure q | exact wpAny_rule q
    have pm := layNew_perm t es ((mixKind P w).hash k) v
    have hf1 := layNew_fits t es ((mixKind P w).hash k) v
    have hr1 := layNew_ris t es ((mixKind P w).hash k) v hr
    have hl1 := layNew_led t es ((mixKind P w).hash k) v
    generalize layNew t es ((mixKind P w).hash k) v = Z at pm hf1 hr1 hl1 ⊢
    obtain ⟨fs, t1, wasDummy, gave⟩ := Z
    dsimp only at pm hf1 hr1 hl1 ⊢
    rw [Array.toList_push] at pm
    have pc : fs.toList.Perm (((mixKind P w).hash k, v) :: es.toList) := pm.trans (List.perm_append_singleton _ _)
    have ek : kyE ((mixKind P w).hash k, v) = k := kyOf_is hv
    have pk : (fs.toList.map kyE).Perm (k :: es.toList.map kyE) := by have q := pc.map kyE; rw [List.map_cons, ek] at q; exact q
    have g1 : ∀ e ∈ fs.toList, OkE w e := fun e he => by
      rcases List.mem_cons.mp (pc.mem_iff.mp he) with z | z
      · rw [z]; exact ⟨by rw [ek]; exact hv, by rw [ek]; rfl⟩
      · exact g e z
    have nd1 : (fs.toList.map kyE).Nodup := pk.nodup_iff.mpr (List.nodup_cons.mpr ⟨hnk, nd⟩)
    have m1 : ∀ i, (S i ∨ i = k) ↔ i ∈ fs.toList.map kyE := fun i => by rw [hm i, pk.mem_iff, List.mem_cons]; exact Or.comm
    have hz : fs.size = n + 1 := by rw [← Array.length_toList, pc.length_eq, List.length_cons, Array.length_toList, hn]
    have hb1 : fs.size < scanBound := hz ▸ room
    have hled : w.params.followText "set-order" = true ∨ t1.led = true := hl.imp id fun z => hl1 ▸ z
    have fin : ∀ h', Heap.SameBut a s.heap h' → SetM w h' a (fun j => S j ∨ j = k) fs.size → Q true { s with heap := h' } := fun h' sb r => hQ _ h' _ (Nat.le_of_eq hz) sb r
    refine wpAny_bind (gw _ ?_)
    split
    · refine wpAny_bind ?_
      rw [hashByValue_scannable 8 hsc]
      refine wpAny_pure (setM_tail ?_ ho hex hd g1 nd1 m1 hb1 ?_ ?_ ?_ ?_)
      · intro b s₁ Z q; cases b <;> first | exact wpAny_pure q | exact wpAny_rule q
      · first | (split <;> first | exact hf1 | exact SetTable.fits_plain_off hf1) | exact hf1
      · first | (split <;> exact hr1) | exact hr1
      · first | (split <;> exact hled) | exact hled
      · intro h' sb r; dsimp only; exact wpAny_pure (fin h' sb r)
    · refine wpAny_bind (wpAny_pure ?_)
      simp only [↓reduceIte]
      refine setM_tail ?_ ho hex hd g1 nd1 m1 hb1 hf1 hr1 hled ?_
      · intro b s₁ Z q; cases b <;> first | exact wpAny_pure q | exact wpAny_rule q
      · intro h' sb r; dsimp only; exact wpAny_pure (fin h' sb r)
/-- the keys of a row of values -/
def KeysAre (us : List Value) (ks : List Key) : Prop := EachIs (fun u k => keyIs k u = true) us ks
theorem KeysAre.len {us : List Value} {ks : List Key} (h : KeysAre us ks) : us.length = ks.length := EachIs.length h
theorem KeysAre.get : ∀ {us : List Value} {ks : List Key}, KeysAre us ks → ∀ {i : Nat} {v : Value}, us[i]? = some v → ∃ k, ks[i]? = some k ∧ keyIs k v = true
  | _, _, .nil, i, v, h => by simp at h
  | _, _, .cons h1 h2, 0, v, h => by simp at h; subst h; exact ⟨_, rfl, h1⟩
  | _, _, .cons h1 h2, i + 1, v, h => by simp at h; simpa using KeysAre.get h2 h
theorem hash_key {k : Key} {v : Value} {Q : Int → Shared → Prop} (hv : keyIs k v = true) (h : Q ((mixKind P w).hash k) { s with toks := s.toks + 1 }) : wpAny (model P w) A (pyHash v) Q E s :=
  (mixKind P w).pyHash (k := k) hv h
theorem setM_loop {I : Addr} {fp wr : List Addr} {G : Array GenState → Array GenState → Prop} {n : Nat} {Pv : Nat → Value → Prop} {St : Nat → Shared → Prop} {R : Result → Shared → Prop}
    (W : WalksS P w A.in1 I fp wr G n Pv St) (B : Addr) (hBf : B ∉ fp) (ks : List Key) (hn : n = ks.length) (hb : ks.length + 1 < scanBound) (hval : ∀ i v, Pv i v → ∃ k, ks[i]? = some k ∧ keyIs k v = true) :
    ∀ (m i : Nat) (s : Shared), n - i = m → i ≤ n → St i s → (∃ c, c ≤ i ∧ SetM w s.heap B (fun j => j ∈ ks.take i) c) →
      (∀ s' c, Moved (B :: wr) G s s' → c ≤ n → SetM w s'.heap B (fun j => j ∈ ks) c → R (.ok (.ret .none)) s') →
      codeAny (model P w) A (.builtin "set.update.loop" ⟨[.ref B, .ref I], []⟩) R s := by
  have nw : B ∉ wr := fun h => hBf (W.sub _ h)
  have sub' : ∀ b ∈ wr, b ∈ B :: wr := fun b hb => List.mem_cons_of_mem _ hb
  intro m
  induction m with
  | zero =>
    intro i s hk' hi hst ⟨c, hc, hS⟩ hR
    obtain rfl : i = n := by omega
    refine codeAny_builtin F.entry_set_update_loop ?_
    rw [Around.under_plainId F.plain_set_update_loop _]
    show wpAny _ A.in1 (pyNext (.ref I) >>= _) _ _ s
    refine wpAny_bind (W.done s _ _ hst fun s' hm => ?_)
    rw [show ks.take i = ks from List.take_of_length_le (by omega)] at hS
    exact wpAny_pure (hR s' c (hm.mono sub') hc (hS.at fun o e => hm.heap B o nw e))
  | succ m ih =>
    intro i s hk' hi hst ⟨c, hc, hS⟩ hR
    have hlt : i < n := by omega
    refine codeAny_builtin F.entry_set_update_loop ?_
    rw [Around.under_plainId F.plain_set_update_loop _]
    show wpAny _ A.in1 (pyNext (.ref I) >>= _) _ _ s
    refine wpAny_bind (W.item i s _ _ hlt hst fun v s' hP hst' hm => ?_)
    obtain ⟨z, hz, hv⟩ := hval i v hP
    have hS' : SetM w s'.heap B (fun j => j ∈ ks.take i) c := hS.at fun o e => hm.heap B o nw e
    show wpAny _ A.in1 (holding [v] (setAdd B v) >>= _) _ _ s'
    refine wpAny_bind (wpAny_holding ?_)
    unfold setAdd
    refine wpAny_holding (wpAny_bind (hash_key hv ?_))
    refine setM_add (s := { s' with toks := s'.toks + 1 }) hS' hv (by omega) fun b h' c2 hc2 hsb hS2 => ?_
    have hS3 : SetM w h' B (fun j => j ∈ ks.take (i + 1)) c2 := hS2.same fun j => by rw [List.take_add_one, hz]; simp
    refine wpAny_pure ⟨plainId_quiet F.plain_set_update_loop _, ih (i + 1) _ (by omega) hlt (W.frame _ s' _ _ hst' (Nat.le_succ _) fun b hb o e => ?_) ⟨_, by omega, hS3⟩ fun s'' c3 hm'' hc'' hS'' => ?_⟩
    · exact (hsb.2 b fun h : b = B => hBf (h ▸ hb)).trans e
    · exact hR s'' c3 (Moved.trans W.gtrans ((hm.mono sub').then_heap (Nat.le_succ _) fun b o hb e => (hsb.2 b fun h : b = B => hb (h ▸ List.mem_cons_self)).trans e) hm'') hc'' hS''
abbrev newSet (w : World) : Obj := { cls := .type "set", dict := none, data := .set #[] 0 (.fresh 0 0 (!w.params.followText "set-order")) }
theorem setM_new {h : Heap} {ks : List Key} (ho : h.get? a = some (newSet w)) : SetM w h a (fun j => j ∈ ks.take 0) 0 :=
  ⟨_, #[], 0, _, ho, ⟨rfl, rfl, rfl⟩, rfl, (fun e he => by simp at he), (by simp), (fun k => by simp), (by decide), (by rfl), rfl, List.Pairwise.nil, by
    show _ ∨ (!w.params.followText "set-order") = true
    cases w.params.followText "set-order"
    · exact .inr rfl
    · exact .inl rfl⟩
end
end DL

set_option Elab.async false
set_option linter.all false
set_option maxRecDepth 100000
set_option maxHeartbeats 4000000
/-! sorted(set(xs)), len(set(xs)) -/
namespace DL
open PySem PySem.Spec PySem.Calls PyProof.Rows L2 PySem.W
theorem call_setM_list {P : Program} {w : World} {A : Around} {E : Value → Shared → Prop} {s : Shared} {l : Addr} {items : Array Value} (ks : List Key) {Q : Value → Shared → Prop} (hh : A.handled = none) (hl : s.heap.IsList l items) (hit : KeysAre items.toList ks) (hb : ks.length + 1 < scanBound)
    (h : ∀ (h' : Heap) (tk c : Nat), SetM w h' s.heap.objs.size (fun j => j ∈ ks) c → (∀ b o, s.heap.get? b = some o → h'.get? b = some o) → Q (.ref s.heap.objs.size) { s with heap := h', toks := tk }) :
    wpAny (model P w) A (call (.type "set") [.ref l]) Q E s := by
  have hisz : items.size = ks.length := by have q := hit.len; rwa [Array.length_toList] at q
  obtain ⟨c, tl, hmro⟩ := F.called_set.mro
  have hmade := F.called_set.made; have hsub := F.called_set.sub
  refine wpAny_call (codeAny_of_tree ?_); show wpAny _ _ (callAny (.type "set") _) _ _ _
  refine wpAny_pure ⟨Code.quiet_builtin _ (by decide +kernel), codeAny_builtin F.entry_type_call ?_⟩
  rw [Around.under_plain (weight_type_call_type "set" [.ref l] []) rfl]
  have h1 := F.called_set.notType; have h2 := F.called_set.canCreate; have hct := F.typeCall_set_1 (.ref l)
  repeat (any_goals (first | assumption | wp_step))
  refine codeAny_mono (code_set_led1 (.ref l) (E := E) (Q₁ := fun obj s₁ => obj = .ref s.heap.objs.size ∧ s₁ = { s with heap := s.heap.push (newSet w) }) ⟨rfl, rfl⟩) fun r s₁ hr => ?_
  cases r with
  | error e => exact hr
  | ok fl =>
    cases fl with
    | ret obj =>
      obtain ⟨rfl, rfl⟩ := hr
      have hS : (s.heap.push (newSet w)).get? s.heap.objs.size = some (newSet w) := Heap.get?_push_size _ rfl
      have hT : Shared.TypeIs { s with heap := s.heap.push (newSet w) } (.ref s.heap.objs.size) "set" := ⟨_, hS, rfl⟩
      have hli := F.called_set.init.lookup; have hbi := F.called_set.init.bind (.ref s.heap.objs.size)
      repeat (any_goals (first | assumption | wp_step))
      refine codeAny_mono (codeAny_call_builtin (R := wants (fun r s₂ => r = .none ∧ ∃ h' tk c, s₂ = { s with heap := h', toks := tk } ∧ SetM w h' s.heap.objs.size (fun j => j ∈ ks) c ∧
          (∀ b o, s.heap.get? b = some o → h'.get? b = some o)) E) F.called_set.init.plain F.entry_set_init (check_set_init_1 hT ?_)) fun r₂ s₂ hr₂ => ?_
      · obtain ⟨⟨ocls, odict, odata, oslots⟩, hol, hcl, nl, hdl⟩ := hl
        simp only at hcl hdl
        subst hcl; subst hdl
        have hol' : (s.heap.push (newSet w)).get? l = some { cls := .type "list", dict := odict, data := .seq items nl, slots := oslots } := Heap.get?_push_of_some _ hol
        have s1 := F.sub_list_set; have s2 := F.sub_list_frozenset
        have hne : (Value.type "list" == Value.type "dict") = false := by decide
        have hl1 : (s.heap.push (newSet w)).IsList l items := ⟨_, hol', rfl, nl, rfl⟩
        unfold Builtin.«set.__init__» noKeywords Builtin.Frozenset.updateFrom
        generalize hPI : pyIter = PI
        wp_walk
        subst hPI
        refine wpAny_pyIter_list hl1 (wpAny_bind (wpAny_runValue ?_))
        have hlS : l < s.heap.objs.size := Heap.lt_size hol
        have hh3 : A.in1.in1.in1.handled = none := by simp [hh]
        have hneI : l ≠ (s.heap.push (newSet w)).objs.size := by rw [Heap.size_push]; exact Nat.ne_of_lt (Nat.lt_succ_of_lt hlS)
        have hSf : s.heap.objs.size ∉ [(s.heap.push (newSet w)).objs.size, l] := by
          rw [Heap.size_push]; simp only [List.mem_cons, List.not_mem_nil, or_false, not_or]; exact ⟨Nat.ne_of_lt (Nat.lt_succ_self _), Nat.ne_of_gt hlS⟩
        have hval : ∀ (i : Nat) (v : Value), items[i]? = some v → ∃ k, ks[i]? = some k ∧ keyIs k v = true := fun i v hv => hit.get (by rw [Array.getElem?_toList]; exact hv)
        refine setM_loop ((Walks.list hh3 _ l hneI items).toS) s.heap.objs.size
          hSf ks hisz hb hval (items.size - 0) 0 _ (by omega) (Nat.zero_le _)
          ⟨⟨_, Heap.get?_push_size _ rfl, rfl, rfl⟩, (hl1.push _)⟩ ?hS0 ?hR
        case hS0 =>
          exact ⟨0, Nat.le_refl 0, setM_new (Heap.get?_push_of_some _ hS)⟩
        case hR =>
          intro s' c' hm hc' hS'
          obtain ⟨h', g2, d', tk', os'⟩ := s'
          have eg : g2 = s.gens := hm.gens
          have ed : d' = s.drawn := hm.drawn
          have eo : os' = s.os := hm.os
          subst eg; subst ed; subst eo
          show wpAny _ _ _ _ _ _
          refine wpAny_pure ?_
          show wpAny _ _ (ret Value.none) _ _ _
          refine wpAny_pure ⟨rfl, h', tk', c', rfl, hS', fun b o e => ?_⟩
          have hb0 : b < s.heap.objs.size := Heap.lt_size e
          have hb2 : b ≠ (s.heap.push (newSet w)).objs.size := by rw [Heap.size_push]; exact Nat.ne_of_lt (Nat.lt_succ_of_lt hb0)
          exact hm.heap b o (by simp only [List.mem_cons, List.not_mem_nil, or_false, not_or]; exact ⟨Nat.ne_of_lt hb0, hb2⟩) (Heap.get?_push_of_some _ (Heap.get?_push_of_some _ e))
      · cases r₂ with
        | error e => exact hr₂
        | ok fl₂ =>
          cases fl₂ with
          | ret r =>
            obtain ⟨rfl, h', tk, c, rfl, hS', hk'⟩ := hr₂
            repeat (any_goals (first | assumption | wp_step))
            exact h _ _ _ hS' hk'
          | _ => exact hr₂.elim
    | _ => exact hr.elim
theorem call_setM_tuple {P : Program} {w : World} {A : Around} {E : Value → Shared → Prop} {s : Shared} {l : Addr} {items : Array Value} (ks : List Key) {Q : Value → Shared → Prop} (hh : A.handled = none) (hl : s.heap.IsTuple l items) (hit : KeysAre items.toList ks) (hb : ks.length + 1 < scanBound)
    (h : ∀ (h' : Heap) (tk c : Nat), SetM w h' s.heap.objs.size (fun j => j ∈ ks) c → (∀ b o, s.heap.get? b = some o → h'.get? b = some o) → Q (.ref s.heap.objs.size) { s with heap := h', toks := tk }) :
    wpAny (model P w) A (call (.type "set") [.ref l]) Q E s := by
  have hisz : items.size = ks.length := by have q := hit.len; rwa [Array.length_toList] at q
  obtain ⟨c, tl, hmro⟩ := F.called_set.mro
  have hmade := F.called_set.made; have hsub := F.called_set.sub
  refine wpAny_call (codeAny_of_tree ?_); show wpAny _ _ (callAny (.type "set") _) _ _ _
  refine wpAny_pure ⟨Code.quiet_builtin _ (by decide +kernel), codeAny_builtin F.entry_type_call ?_⟩
  rw [Around.under_plain (weight_type_call_type "set" [.ref l] []) rfl]
  have h1 := F.called_set.notType; have h2 := F.called_set.canCreate; have hct := F.typeCall_set_1 (.ref l)
  repeat (any_goals (first | assumption | wp_step))
  refine codeAny_mono (code_set_led1 (.ref l) (E := E) (Q₁ := fun obj s₁ => obj = .ref s.heap.objs.size ∧ s₁ = { s with heap := s.heap.push (newSet w) }) ⟨rfl, rfl⟩) fun r s₁ hr => ?_
  cases r with
  | error e => exact hr
  | ok fl =>
    cases fl with
    | ret obj =>
      obtain ⟨rfl, rfl⟩ := hr
      have hS : (s.heap.push (newSet w)).get? s.heap.objs.size = some (newSet w) := Heap.get?_push_size _ rfl
      have hT : Shared.TypeIs { s with heap := s.heap.push (newSet w) } (.ref s.heap.objs.size) "set" := ⟨_, hS, rfl⟩
      have hli := F.called_set.init.lookup; have hbi := F.called_set.init.bind (.ref s.heap.objs.size)
      repeat (any_goals (first | assumption | wp_step))
      refine codeAny_mono (codeAny_call_builtin (R := wants (fun r s₂ => r = .none ∧ ∃ h' tk c, s₂ = { s with heap := h', toks := tk } ∧ SetM w h' s.heap.objs.size (fun j => j ∈ ks) c ∧
          (∀ b o, s.heap.get? b = some o → h'.get? b = some o)) E) F.called_set.init.plain F.entry_set_init (check_set_init_1 hT ?_)) fun r₂ s₂ hr₂ => ?_
      · obtain ⟨⟨ocls, odict, odata, oslots⟩, hol, hcl, nl, hdl⟩ := hl
        simp only at hcl hdl
        subst hcl; subst hdl
        have hol' : (s.heap.push (newSet w)).get? l = some { cls := .type "tuple", dict := odict, data := .seq items nl, slots := oslots } := Heap.get?_push_of_some _ hol
        have s1 := F.sub_tuple_set; have s2 := F.sub_tuple_frozenset
        have hne : (Value.type "tuple" == Value.type "dict") = false := by decide
        have hl1 : (s.heap.push (newSet w)).IsTuple l items := ⟨_, hol', rfl, nl, rfl⟩
        unfold Builtin.«set.__init__» noKeywords Builtin.Frozenset.updateFrom
        generalize hPI : pyIter = PI
        wp_walk
        subst hPI
        refine wpAny_pyIter_tuple hl1 (wpAny_bind (wpAny_runValue ?_))
        have hlS : l < s.heap.objs.size := Heap.lt_size hol
        have hh3 : A.in1.in1.in1.handled = none := by simp [hh]
        have hneI : l ≠ (s.heap.push (newSet w)).objs.size := by rw [Heap.size_push]; exact Nat.ne_of_lt (Nat.lt_succ_of_lt hlS)
        have hSf : s.heap.objs.size ∉ [(s.heap.push (newSet w)).objs.size, l] := by
          rw [Heap.size_push]; simp only [List.mem_cons, List.not_mem_nil, or_false, not_or]; exact ⟨Nat.ne_of_lt (Nat.lt_succ_self _), Nat.ne_of_gt hlS⟩
        have hval : ∀ (i : Nat) (v : Value), items[i]? = some v → ∃ k, ks[i]? = some k ∧ keyIs k v = true := fun i v hv => hit.get (by rw [Array.getElem?_toList]; exact hv)
        refine setM_loop ((Walks.tuple hh3 _ l hneI items).toS) s.heap.objs.size
          hSf ks hisz hb hval (items.size - 0) 0 _ (by omega) (Nat.zero_le _)
          ⟨⟨_, Heap.get?_push_size _ rfl, rfl, rfl⟩, (hl1.push _)⟩ ?hS0 ?hR
        case hS0 =>
          exact ⟨0, Nat.le_refl 0, setM_new (Heap.get?_push_of_some _ hS)⟩
        case hR =>
          intro s' c' hm hc' hS'
          obtain ⟨h', g2, d', tk', os'⟩ := s'
          have eg : g2 = s.gens := hm.gens
          have ed : d' = s.drawn := hm.drawn
          have eo : os' = s.os := hm.os
          subst eg; subst ed; subst eo
          show wpAny _ _ _ _ _ _
          refine wpAny_pure ?_
          show wpAny _ _ (ret Value.none) _ _ _
          refine wpAny_pure ⟨rfl, h', tk', c', rfl, hS', fun b o e => ?_⟩
          have hb0 : b < s.heap.objs.size := Heap.lt_size e
          have hb2 : b ≠ (s.heap.push (newSet w)).objs.size := by rw [Heap.size_push]; exact Nat.ne_of_lt (Nat.lt_succ_of_lt hb0)
          exact hm.heap b o (by simp only [List.mem_cons, List.not_mem_nil, or_false, not_or]; exact ⟨Nat.ne_of_lt hb0, hb2⟩) (Heap.get?_push_of_some _ (Heap.get?_push_of_some _ e))
      · cases r₂ with
        | error e => exact hr₂
        | ok fl₂ =>
          cases fl₂ with
          | ret r =>
            obtain ⟨rfl, h', tk, c, rfl, hS', hk'⟩ := hr₂
            repeat (any_goals (first | assumption | wp_step))
            exact h _ _ _ hS' hk'
          | _ => exact hr₂.elim
    | _ => exact hr.elim
end DL

set_option Elab.async false
set_option linter.all false
set_option maxRecDepth 100000
set_option maxHeartbeats 4000000
namespace DL
open PySem PySem.Spec PySem.Calls PyProof.Rows L2 PySem.W
noncomputable def leK (k l : Key) : Bool := leD (kD k) (kD l)
def ddp {α : Type} [DecidableEq α] : List α → List α
  | [] => []
  | x :: xs => if x ∈ xs then ddp xs else x :: ddp xs
theorem mem_ddp {α : Type} [DecidableEq α] {k : α} : ∀ {xs : List α}, k ∈ ddp xs ↔ k ∈ xs
  | [] => Iff.rfl
  | x :: xs => by
    unfold ddp
    split
    · rename_i h
      rw [mem_ddp, List.mem_cons]
      exact ⟨.inr, fun z => z.elim (fun e => e ▸ h) id⟩
    · rw [List.mem_cons, List.mem_cons, mem_ddp]
theorem nodup_ddp {α : Type} [DecidableEq α] : ∀ xs : List α, (ddp xs).Nodup
  | [] => List.nodup_nil
  | x :: xs => by
    unfold ddp
    split
    · exact nodup_ddp xs
    · rename_i h
      exact List.nodup_cons.mpr ⟨fun z => h (mem_ddp.mp z), nodup_ddp xs⟩
noncomputable def srtK (ks : List Key) : List Key := (ddp ks).mergeSort leK
theorem toks_kD (k : Key) : keyToks (py (kD k)) = [match k with | .inl i => .inl i | .inr x => .inr x.cps.toList] := by
  cases k <;> (unfold kD py; simp only [keyToks])
theorem leK_anti {k l : Key} (h1 : leK k l = true) (h2 : leK l k = true) : k = l := by
  have r := (listOrd itemOrd).total (keyToks (py (kD k))) (keyToks (py (kD l))) (by
    have := h2; unfold leK leD dataLe sortLe at this; simpa using this) (by
    have := h1; unfold leK leD dataLe sortLe at this; simpa using this)
  rw [toks_kD, toks_kD] at r
  cases k with
  | inl i => cases l with
    | inl j => simpa using r
    | inr y => simp at r
  | inr x => cases l with
    | inl j => simp at r
    | inr y =>
      have r' : x.cps.toList = y.cps.toList := by
        have := List.cons.inj r
        exact Sum.inr.inj this.1
      rw [str_of_cps r']
theorem leK_tot : TotalLe leK := sortLe_total (listOrd itemOrd) false fun k : Key => keyToks (py (kD k))
theorem leD_tot : TotalLe leD := sortLe_total (listOrd itemOrd) false fun k : D => keyToks (py k)
/-- two rows of the same items, both in order -/
theorem perm_ord {α : Type} {le : α → α → Bool} (anti : ∀ a b, le a b = true → le b a = true → a = b) : ∀ {l m : List α}, l.Perm m → l.Pairwise (fun a b => le a b = true) → m.Pairwise (fun a b => le a b = true) → l = m
  | [], m, p, _, _ => by rw [p.nil_eq]
  | x :: l, [], p, _, _ => by cases p.symm.nil_eq
  | x :: l, y :: m, p, h1, h2 => by
    obtain ⟨a1, a2⟩ := List.pairwise_cons.mp h1
    obtain ⟨b1, b2⟩ := List.pairwise_cons.mp h2
    have e : x = y := by
      rcases List.mem_cons.mp (p.mem_iff.mp List.mem_cons_self) with e | e
      · exact e
      rcases List.mem_cons.mp (p.mem_iff.mpr List.mem_cons_self) with e' | e'
      · exact e'.symm
      exact anti _ _ (a1 y e') (b1 x e)
    subst e
    rw [perm_ord anti (List.Perm.cons_inv p) a2 b2]
theorem srtK_eq {ks ls : List Key} (nd : ls.Nodup) (h : ∀ k, k ∈ ls ↔ k ∈ ks) : ls.mergeSort leK = srtK ks := by
  unfold srtK
  refine perm_ord (fun a b => leK_anti) ?_ (sort_pairwise leK_tot _) (sort_pairwise leK_tot _)
  refine (List.mergeSort_perm _ _).trans (List.Perm.trans ?_ (List.mergeSort_perm _ _).symm)
  exact (List.perm_ext_iff_of_nodup nd (nodup_ddp _)).mpr fun k => by rw [h k]; exact mem_ddp.symm
theorem srtK_mem {ks : List Key} {k : Key} : k ∈ srtK ks ↔ k ∈ ks := (List.mergeSort_perm _ _).mem_iff.trans mem_ddp
theorem srtK_sorted (ks : List Key) : (srtK ks).Pairwise fun a b => leK a b = true := sort_pairwise leK_tot _
theorem srtK_nodup (ks : List Key) : (srtK ks).Nodup := (List.mergeSort_perm _ _).nodup_iff.mpr (nodup_ddp _)

theorem kV_rel {k : Key} {u : Value} : RelV (kV k) u ↔ keyIs k u = true := by
  constructor
  · intro r
    cases k with
    | inl i => obtain ⟨t, e⟩ := (show ∃ t, u = Value.int i t from r); subst e; exact keyIs_int i t
    | inr x => obtain ⟨t, e⟩ := (show ∃ t, u = Value.str x t from r); subst e; exact keyIs_str x t
  · intro h
    rcases keyIs_shape h with ⟨i, t, rfl, rfl⟩ | ⟨x, t, rfl, rfl⟩
    · exact ⟨t, rfl⟩
    · exact ⟨t, rfl⟩
theorem keys_of : ∀ {ks : List Key} {us : List Value}, Vals (ks.map kV) us → KeysAre us ks
  | [], _, h => by cases h; exact .nil
  | k :: ks, _, h => by cases h with | cons h1 h2 => exact .cons (kV_rel.mp h1) (keys_of h2)
theorem of_keys : ∀ {ks : List Key} {us : List Value}, KeysAre us ks → Vals (ks.map kV) us
  | [], _, h => by cases h; exact .nil
  | k :: ks, _, h => by cases h with | cons h1 h2 => exact .cons (kV_rel.mpr h1) (of_keys h2)
theorem key_reads {h : Heap} {k : Key} {u : Value} (e : keyIs k u = true) : ∃ as, Reads h u (py (kD k)) as := by
  rcases keyIs_shape e with ⟨i, t, rfl, rfl⟩ | ⟨x, t, rfl, rfl⟩
  · exact ⟨[], by unfold kD py; exact .int i t⟩
  · exact ⟨[], by unfold kD py; exact .str x t⟩
theorem keys_read {h : Heap} : ∀ {ks : List Key} {us : List Value}, KeysAre us ks → EachIs (fun u (k : Key) => ∃ as, Reads h u (py (kD k)) as) us ks
  | _, _, .nil => .nil
  | _, _, .cons h1 h2 => .cons (key_reads h1) (keys_read h2)
/-- keys of one kind -/
def oneK : List Key → Bool
  | [] => true
  | .inl _ :: ks => ks.all fun k => match k with | .inl _ => true | .inr _ => false
  | .inr _ :: ks => ks.all fun k => match k with | .inr _ => true | .inl _ => false
theorem oneL : ∀ {ks : List Key}, (ks.all fun k => match k with | .inl _ => true | .inr _ => false) = true → ∃ ns : List Int, ks = ns.map .inl
  | [], _ => ⟨[], rfl⟩
  | .inl j :: ks, h => by obtain ⟨ns, e⟩ := oneL (ks := ks) (by simpa using h); exact ⟨j :: ns, by rw [e]; rfl⟩
  | .inr _ :: ks, h => by simp at h
theorem oneR : ∀ {ks : List Key}, (ks.all fun k => match k with | .inr _ => true | .inl _ => false) = true → ∃ ns : List Str, ks = ns.map .inr
  | [], _ => ⟨[], rfl⟩
  | .inr j :: ks, h => by obtain ⟨ns, e⟩ := oneR (ks := ks) (by simpa using h); exact ⟨j :: ns, by rw [e]; rfl⟩
  | .inl _ :: ks, h => by simp at h
theorem oneK_shape {ks : List Key} (h : oneK ks = true) : (∃ ns : List Int, ks = ns.map .inl) ∨ ∃ xs : List Str, ks = xs.map .inr := by
  cases ks with
  | nil => exact .inl ⟨[], rfl⟩
  | cons k ks =>
    cases k with
    | inl i => obtain ⟨ns, e⟩ := oneL h; exact .inl ⟨i :: ns, by rw [e]; rfl⟩
    | inr i => obtain ⟨ns, e⟩ := oneR h; exact .inr ⟨i :: ns, by rw [e]; rfl⟩
/-- what sorting asks of such keys -/
theorem key_srt {ks ls : List Key} (h : oneK ks = true) (hs : ∀ k ∈ ls, k ∈ ks) {A : Around} (hu : A.units + 1 < cLine) :
    AllAlike (ls.map fun k => py (kD k)) ∧ PySem.W.Sortable (ls.map fun k => py (kD k)) ∧ ∀ k ∈ ls, A.units + (py (kD k)).depth < cLine := by
  have sh : ∀ d ∈ ls.map (fun k => py (kD k)), ∃ k ∈ ls, d = py (kD k) := fun d hd => by obtain ⟨k, hk, e⟩ := List.mem_map.mp hd; exact ⟨k, hk, e.symm⟩
  refine ⟨fun d hd e he => ?_, .inr fun d hd => ?_, fun k hk => ?_⟩
  · obtain ⟨k, hk, rfl⟩ := sh d hd
    obtain ⟨l, hl, rfl⟩ := sh e he
    rcases oneK_shape h with ⟨ns, e⟩ | ⟨ns, e⟩
    · obtain ⟨i, _, rfl⟩ := List.mem_map.mp (e ▸ hs k hk)
      obtain ⟨j, _, rfl⟩ := List.mem_map.mp (e ▸ hs l hl)
      unfold kD py; rfl
    · obtain ⟨i, _, rfl⟩ := List.mem_map.mp (e ▸ hs k hk)
      obtain ⟨j, _, rfl⟩ := List.mem_map.mp (e ▸ hs l hl)
      unfold kD py; rfl
  · obtain ⟨k, hk, rfl⟩ := sh d hd
    cases k <;> (unfold kD py; exact ⟨nofun, nofun⟩)
  · cases k <;> (unfold kD py PyData.depth; omega)
section
variable {P : Program} {w : World} {A : Around} {E : Value → Shared → Prop} {s : Shared}
theorem sort_keys {l : Addr} {vs : List Value} {ks : List Key} {n : Nat} (ho : s.heap.get? l = some (seqObj "list" vs.toArray n)) (hk : KeysAre vs ks) (hz : vs.length ≤ sizeLine)
    (hal : AllAlike (ks.map fun k => py (kD k))) (hsk : PySem.W.Sortable (ks.map fun k => py (kD k))) (hu : ∀ k ∈ ks, A.units + (py (kD k)).depth < cLine) {Z : PySem.Fin → Shared → Prop}
    (h : ∀ out : List Value, out.length = vs.length → KeysAre out (ks.mergeSort leK) → Z (.done (.ret .none)) { s with heap := sortedHeap s.heap l vs out.toArray }) :
    wpAny (model P w) A (Builtin.«list.sort» ⟨[.ref l], []⟩) Z E s := by
  have er : EachIs (fun v k => ∃ as, Reads (sortingHeap s.heap l vs) v (py (kD k)) as) vs ks := keys_read hk
  refine list_sort_vals (κ := dataKind (sortingHeap s.heap l vs) (ks.map fun k => py (kD k))) ho (SortsAt.data (s := { s with heap := sortingHeap s.heap l vs }) (each_map (R := fun v d => ∃ as, Reads (sortingHeap s.heap l vs) v d as) (fun k => py (kD k)) er) hal hsk (bound_map hu)) hz ?_
  exact h _ (sortVals_length false rfl) (sortVals_data (R := fun u (k : Key) => keyIs k u = true) false hk er hal)
/-- the rest of sorted, behind the gathering -/
theorem sorted_rest {vs : List Value} {ks : List Key} (hk : KeysAre vs ks) (hz : vs.length ≤ sizeLine)
    (hal : AllAlike (ks.map fun k => py (kD k))) (hsk : PySem.W.Sortable (ks.map fun k => py (kD k))) (hu : ∀ k ∈ ks, A.in1.units + (py (kD k)).depth < cLine) {Z : PySem.Fin → Shared → Prop}
    (h : ∀ (out : List Value) (h' : Heap) (c : Nat), out.length = vs.length → KeysAre out (ks.mergeSort leK) → (∀ b o, s.heap.get? b = some o → h'.get? b = some o) → h'.get? s.heap.objs.size = some (seqObj "list" out.toArray c) → Z (.done (.ret (.ref s.heap.objs.size))) { s with heap := h' }) (kw : List (Str × Value)) (hkw : kw = []) :
    wpAny (model P w) A (newList vs >>= fun l => holding [l] (call (.builtin "list.sort") [l] kw) >>= fun _ => ret l) Z E s := by
  subst hkw
  refine wpAny_bind (wpAny_newList ?_ hz)
  have hoL : (s.heap.push (seqObj "list" vs.toArray 0)).get? s.heap.objs.size = some (seqObj "list" vs.toArray 0) := Heap.get?_push_size _ rfl
  refine wpAny_bind (wpAny_holding (wpAny_call_entry slot_list_sort ⟨_, hoL, rfl⟩ entry_list_sort (sort_keys (s := { s with heap := s.heap.push (seqObj "list" vs.toArray 0) }) hoL hk hz hal hsk hu fun out ho he => ⟨_, rfl, ?_⟩) (args_list_sort _)))
  obtain ⟨c, hc⟩ := sortedHeap_at (vs := vs) (out := out.toArray) hoL
  refine wpAny_pure (h out _ c ho he (fun b u e => ?_) hc)
  have hb : b < s.heap.objs.size := Heap.lt_size e
  rw [sortedHeap_old (Nat.ne_of_lt hb) (by rw [size_push']; exact Nat.lt_succ_of_lt hb)]
  exact Heap.get?_push_of_some _ e
end
end DL

set_option Elab.async false
set_option linter.all false
set_option maxRecDepth 100000
set_option maxHeartbeats 4000000
/-! sorted, sorted(set(..)), len(set(..)) as functions -/
namespace DL
open PySem PySem.Spec PySem.Calls PyProof.Rows L2 PySem.W
def rSS (K : PySem.W.Frag) : V → Hp → VK → Prop := fun x H Q => ∃ (a : Addr) (ks : List Key), x = .ref a ∧ (SqL K H a (ks.map kV) ∨ SqT K H a (ks.map kV)) ∧ ks.length + 1 < scanBound ∧ oneK ks = true ∧
  ∀ p, H p = none → Q (.ref p) (upd H p (.lst ((srtK ks).map kV)))
def rLS (K : PySem.W.Frag) : V → Hp → VK → Prop := fun x H Q => ∃ (a : Addr) (ks : List Key), x = .ref a ∧ (SqL K H a (ks.map kV) ∨ SqT K H a (ks.map kV)) ∧ ks.length + 1 < scanBound ∧ Q (.int ((ddp ks).length : Nat)) H
section
variable {X : Cx}
theorem set_of {pins : List (Addr × Obj)} {σ : L2.St} {H : Hp} {s : Shared} {a : Addr} {ks : List Key} {u : Value} {A : Around} {E : Value → Shared → Prop} {Q : Value → Shared → Prop} (I : Inv X pins σ H s) (hh : A.handled = none) (hl : SqL X.K H a (ks.map kV) ∨ SqT X.K H a (ks.map kV)) (hb : ks.length + 1 < scanBound)
    (h : ∀ (h' : Heap) (tk c : Nat), SetM X.w h' s.heap.objs.size (fun j => j ∈ ks) c → (∀ b o, s.heap.get? b = some o → h'.get? b = some o) → Q (.ref s.heap.objs.size) { s with heap := h', toks := tk }) :
    wpAny (model X.prog X.w) A (call (.type "set") [.ref a]) Q E s := by
  rcases hl with hl | hl
  · obtain ⟨its, rv, pl, hz⟩ := I.list hl
    exact call_setM_list ks hh pl.isList (by simpa using keys_of rv) hb h
  · obtain ⟨its, rv, pl, hz⟩ := I.tuple hl
    exact call_setM_tuple ks hh pl (by simpa using keys_of rv) hb h
theorem keys_each : ∀ {us : List Value} {ks : List Key}, us.length = ks.length → (∀ (j : Nat) (v : Value), us[j]? = some v → ∃ k, ks[j]? = some k ∧ keyIs k v = true) → KeysAre us ks
  | [], [], _, _ => .nil
  | u :: us, k :: ks, hl, h => by
    obtain ⟨x, e1, e2⟩ := h 0 u rfl
    have : k = x := Option.some.inj e1
    subst this
    exact .cons e2 (keys_each (by simpa using hl) fun j v e => by simpa using h (j + 1) v (by simpa using e))
  | [], _ :: _, hl, _ => by simp at hl
  | _ :: _, [], hl, _ => by simp at hl
theorem scan_fits {n : Nat} (h : n < scanBound) : n ≤ sizeLine := by rw [sizeLine_eq]; unfold scanBound at h; omega
theorem boot_sorted' : bootBuiltins "sorted" = some (.builtin "sorted") := by decide +kernel
theorem pe_sortSet {e : Expr} {te : TE} {p p2 q pos : Pos} (hc : X.calm = true) (hu : X.A.units + 66 < cLine) (hg : Gl X "sorted") (hm : X.mg "sorted" = none) (hg2 : Gl X "set") (hm2 : X.mg "set" = none) (ha : PE X e te)
    (na : starEach [e] X.env = (false, eval e X.env) :: starEach [] X.env := by rfl) : PE X (.Call (.Name "sorted" p) [.Call (.Name "set" p2) [e] [] q] [] pos) (tUn (rSS X.K) te) := by
  refine ⟨fun pins s σ H Q I h => ?_⟩
  refine Call_ (ld_blt I hg hm boot_sorted' ?_)
  refine PyProof.Rows.callWith_builtin1 (PyProof.Rows.args_cons ?_ rfl) rfl rfl
  refine Call_ (ld_blt I hg2 hm2 PyProof.Rows.boot_set ?_)
  refine PyProof.Rows.callWith_type1 (PyProof.Rows.args_cons (thn (ha.run pins s σ H _ I h) fun v s1 ⟨x, H1, I1, r1, q1⟩ => PyProof.Rows.args_nil ?_) na) na rfl
  obtain ⟨a, ks, rfl, hl, hb, ho, q1⟩ := q1
  cases r1
  refine set_of (u := .none) I1 (I1.ok.hd hc) hl hb fun h' tk c hS hk => ?_
  refine PyProof.Rows.args_nil ?_
  obtain ⟨o, es, ep, t, hob, hex, hd, g, nd, hmem, hb2, hf, hn, hr, hled⟩ := hS
  have I2 : Inv X pins σ H1 { s1 with heap := h', toks := tk } := I1.kept hk
  refine Calls.call_function_entry kind_sorted plain_sorted entry_sorted (args_sorted1 _) ?_
  unfold Builtin.«sorted»
  refine wpAny_bind (m := checkCount "sorted" 1 1 _) (wpAny_pure ?_)
  refine wpAny_bind (collect_set (A := X.A.in1) (I1.ok.hd hc) ⟨o, hob, hex.1, hd⟩ hf hb2 hr hled fun s3 vs k3 z3 g3 o3 pm => ?_)
  have hK : KeysAre vs (vs.map kyOf) := by
    have : ∀ v ∈ vs, keyIs (kyOf v) v = true := fun v hv => by
      obtain ⟨e, he, rfl⟩ := List.mem_map.mp (pm.mem_iff.mp hv)
      exact (g e he).1
    clear pm
    induction vs with
    | nil => exact .nil
    | cons v vs ih => exact .cons (this v List.mem_cons_self) (ih fun u hu => this u (List.mem_cons_of_mem _ hu))
  have pk : (vs.map kyOf).Perm (es.toList.map kyE) := by
    have q := pm.map kyOf
    rw [List.map_map] at q
    exact q
  have hmk : ∀ k, k ∈ vs.map kyOf ↔ k ∈ ks := fun k => pk.mem_iff.trans (hmem k).symm
  have ndk : (vs.map kyOf).Nodup := pk.nodup_iff.mpr nd
  have hlen : vs.length ≤ sizeLine := by
    rw [pm.length_eq, List.length_map, Array.length_toList]
    exact scan_fits hb2
  obtain ⟨c1, c2, c3⟩ := key_srt (A := X.A.in1.in1) ho (fun k hk => (hmk k).mp hk) (by show X.A.units + 1 + 1 + 1 < cLine; omega)
  refine sorted_rest (A := X.A.in1) hK hlen c1 c2 c3 (fun out h4 c4 ho4 hk4 hkeep hat => ?_) [] rfl
  rw [srtK_eq ndk hmk] at hk4
  have hle2 : ((srtK ks).map kV).length ≤ sizeLine := by
    have : out.length = (srtK ks).length := hk4.len
    rw [List.length_map, ← this, ho4]
    exact hlen
  have hn1 : H1 s3.heap.objs.size = none := I2.hok.fresh z3
  generalize hs2 : ({ s1 with heap := h', toks := tk } : Shared) = s2 at I2 k3 g3 o3
  have J : Inv X pins σ (upd H1 s3.heap.objs.size (.lst ((srtK ks).map kV))) { s2 with heap := h4, gens := s3.gens, drawn := s3.drawn, toks := s3.toks } :=
    I2.call (ch := []) (Un.laid (fun b u e => hkeep b u (k3 b u e)) (by subst hs2; exact z3) hn1) (I2.hok.laid (fun b u e => hkeep b u (k3 b u e)) (by subst hs2; exact z3) ⟨hle2, out, c4, of_keys hk4, hat⟩) (by rw [g3]; exact I2.bare) (fun _ z => nomatch z)
  have e : ({ s3 with heap := h4 } : Shared) = { s2 with heap := h4, gens := s3.gens, drawn := s3.drawn, toks := s3.toks } := by
    cases s3
    cases s2
    cases o3
    rfl
  rw [e]
  exact ⟨_, rfl, .ref _, _, J, rfl, q1 _ hn1⟩
theorem pe_lenSetM {e : Expr} {te : TE} {p p2 q pos : Pos} (hc : X.calm = true) (hg : Gl X "len") (hm : X.mg "len" = none) (hg2 : Gl X "set") (hm2 : X.mg "set" = none) (ha : PE X e te)
    (na : starEach [e] X.env = (false, eval e X.env) :: starEach [] X.env := by rfl) : PE X (.Call (.Name "len" p) [.Call (.Name "set" p2) [e] [] q] [] pos) (tUn (rLS X.K) te) := by
  refine ⟨fun pins s σ H Q I h => ?_⟩
  refine Call_ (ld_blt I hg hm PySem.boot_len ?_)
  refine PyProof.Rows.callWith_builtin1 (PyProof.Rows.args_cons ?_ rfl) rfl rfl
  refine Call_ (ld_blt I hg2 hm2 PyProof.Rows.boot_set ?_)
  refine PyProof.Rows.callWith_type1 (PyProof.Rows.args_cons (thn (ha.run pins s σ H _ I h) fun v s1 ⟨x, H1, I1, r1, q1⟩ => PyProof.Rows.args_nil ?_) na) na rfl
  obtain ⟨a, ks, rfl, hl, hb, q1⟩ := q1
  cases r1
  refine set_of (u := .none) I1 (I1.ok.hd hc) hl hb fun h' tk c hS hk => ?_
  refine PyProof.Rows.args_nil ?_
  obtain ⟨o, es, ep, t, hob, hex, hd, g, nd, hmem, hb2, hf, hn, hr, hled⟩ := hS
  have I2 : Inv X pins σ H1 { s1 with heap := h', toks := tk } := I1.kept hk
  have el : es.size = (ddp ks).length := by
    rw [← Array.length_toList, ← List.length_map (f := kyE)]
    exact ((List.perm_ext_iff_of_nodup nd (nodup_ddp ks)).mpr fun k => (hmem k).symm.trans mem_ddp.symm).length_eq
  refine call_len_set hob hex hd hf (by unfold scanBound at hb2; omega) ⟨.int es.size, H1, I2.tok _, ⟨_, rfl⟩, ?_⟩
  rw [el]; exact q1
/-- sorted(d), keys ints or texts of one kind -/
def rSD : List V → Hp → VK → Prop := fun xs H Q => ∃ (a : Addr) (kvs : List (Key × V)), xs = [.ref a] ∧ Rd H a (.dK kvs) ∧ oneK (kvs.map (·.1)) = true ∧ ∀ p, H p = none → Q (.ref p) (upd H p (.lst (((kvs.map (·.1)).mergeSort leK).map kV)))
theorem cr_sortD (hc : X.calm = true) (hu : X.A.units + 66 < cLine) : CallR X (.builtin "sorted") rSD := by
  intro pins s σ H xs us Q I r q
  obtain ⟨a, kvs, rfl, hd, ho, q⟩ := q
  rw [Vals.ref1 r]
  obtain ⟨z, lo, vs, rel, dd⟩ := dk_rd I.hok hd
  obtain ⟨ep, hat⟩ := dd.dictAt
  have hkeys : vs.map (·.1) = kvs.map (·.1) := rel.keys.symm
  have h16 : vs.length ≤ sizeLine := by rw [← rel.length]; exact z
  refine Calls.call_function_entry kind_sorted plain_sorted entry_sorted (args_sorted1 _) ?_
  unfold Builtin.«sorted»
  refine wpAny_bind (m := checkCount "sorted" 1 1 _) (wpAny_pure ?_)
  refine wpAny_bind (PySem.W.kdu_collect (A := X.A.in1) (PySem.W.kdl_dict (knd := mixKind X.prog X.w) (kvs := vs) (ep := ep) lo) (I.ok.hd hc) hat h16 fun h' tk acc hk hacc => ?_)
  have hal : acc.toList.length = (kvs.map (·.1)).length := by rw [Array.length_toList, hacc.1, ← hkeys, List.length_map]
  have hK : KeysAre acc.toList (kvs.map (·.1)) := keys_each hal fun j v e => by
    obtain ⟨k, x, e1, e2⟩ := hacc.2 j v (by rw [← Array.getElem?_toList]; exact e)
    exact ⟨k, by rw [← hkeys, List.getElem?_map, e1]; rfl, e2⟩
  have I1 : Inv X pins σ H { s with heap := h', toks := tk } := I.kept hk
  have hz : acc.toList.length ≤ sizeLine := by rw [hal, List.length_map, rel.length]; exact h16
  obtain ⟨c1, c2, c3⟩ := key_srt (A := X.A.in1.in1) ho (fun k hk => hk) (by show X.A.units + 1 + 1 + 1 < cLine; omega)
  refine sorted_rest (A := X.A.in1) hK hz c1 c2 c3 (fun out h4 c4 ho4 hk4 hkeep hat => ?_) [] rfl
  have hle2 : (((kvs.map (·.1)).mergeSort leK).map kV).length ≤ sizeLine := by
    have : out.length = ((kvs.map (·.1)).mergeSort leK).length := hk4.len
    rw [List.length_map, ← this, ho4]
    exact hz
  have hn1 : H h'.objs.size = none := I1.hok.fresh (Nat.le_refl _)
  exact ⟨_, rfl, .ref _, upd H h'.objs.size (.lst (((kvs.map (·.1)).mergeSort leK).map kV)), I1.laid (t' := tk) hkeep (Nat.le_refl _) ⟨hle2, out, c4, of_keys hk4, hat⟩, rfl, q _ hn1⟩
end
/-! ### as functions -/
theorem kD_vds {K : PySem.W.Frag} {L : List Addr} {H : Hp} : ∀ ks : List Key, VDs K L H (ks.map kV) (ks.map kD)
  | [] => .nil
  | .inl i :: ks => .cons (.int i) (kD_vds ks)
  | .inr i :: ks => .cons (.str i) (kD_vds ks)
noncomputable def opSS : D → Option R
  | .lst ds => (match keyTs ds with
    | some ks => if ks.length + 1 < scanBound ∧ oneK ks = true then some (.fr (.lst ((srtK ks).map kD))) else none
    | none => none)
  | .tup ds => (match keyTs ds with
    | some ks => if ks.length + 1 < scanBound ∧ oneK ks = true then some (.fr (.lst ((srtK ks).map kD))) else none
    | none => none)
  | _ => none
def opLS : D → Option R
  | .lst ds => (match keyTs ds with
    | some ks => if ks.length + 1 < scanBound then some (.d (.int (ddp ks).length)) else none
    | none => none)
  | .tup ds => (match keyTs ds with
    | some ks => if ks.length + 1 < scanBound then some (.d (.int (ddp ks).length)) else none
    | none => none)
  | _ => none
noncomputable def opSorted : List D → Option R
  | [.lst xs] => if srtB xs = true then some (.fr (.lst (xs.mergeSort leD))) else none
  | [.tup xs] => if srtB xs = true then some (.fr (.lst (xs.mergeSort leD))) else none
  | [.dK kvs] => if oneK (kvs.map (·.1)) = true then some (.fr (.lst (((kvs.map (·.1)).mergeSort leK).map kD))) else none
  | _ => none
section
variable {K : PySem.W.Frag} {L : List Addr} {H : Hp}
theorem us_ss : UnS K (rSS K) opSS := by
  intro L H x dx res Q hx hL h q
  unfold opSS at h
  split at h
  · rename_i ds
    split at h
    · rename_i ks e
      split at h
      · rename_i hc
        cases h
        obtain ⟨a, vs, rfl, hr, hv⟩ := hx
        have := keyTs_v hv e
        subst this
        exact ⟨a, ks, rfl, .inl (.inl (.inl hr)), hc.1, hc.2, fun p hp => q _ _ (Ext.new hp) (roLst hp (kD_vds _))⟩
      · cases h
    · cases h
  · rename_i ds
    split at h
    · rename_i ks e
      split at h
      · rename_i hc
        cases h
        obtain ⟨a, vs, rfl, hn, hr, hv⟩ := hx
        have := keyTs_v hv e
        subst this
        exact ⟨a, ks, rfl, .inr (.inl (.inl hr)), hc.1, hc.2, fun p hp => q _ _ (Ext.new hp) (roLst hp (kD_vds _))⟩
      · cases h
    · cases h
  · cases h
theorem us_ls : UnS K (rLS K) opLS := by
  intro L H x dx res Q hx hL h q
  unfold opLS at h
  split at h
  · rename_i ds
    split at h
    · rename_i ks e
      split at h
      · rename_i hc
        cases h
        obtain ⟨a, vs, rfl, hr, hv⟩ := hx
        have := keyTs_v hv e
        subst this
        exact ⟨a, ks, rfl, .inl (.inl (.inl hr)), hc, q _ _ (Ext.refl H) (.int _)⟩
      · cases h
    · cases h
  · rename_i ds
    split at h
    · rename_i ks e
      split at h
      · rename_i hc
        cases h
        obtain ⟨a, vs, rfl, hn, hr, hv⟩ := hx
        have := keyTs_v hv e
        subst this
        exact ⟨a, ks, rfl, .inr (.inl (.inl hr)), hc, q _ _ (Ext.refl H) (.int _)⟩
      · cases h
    · cases h
  · cases h
theorem vds_zip : ∀ {vs : List V} {ds : List D}, VDs K L H vs ds → (vs.zip ds).map (·.1) = vs ∧ (vs.zip ds).map (·.2) = ds ∧ ∀ p ∈ vs.zip ds, VD K L H p.1 p.2
  | _, _, .nil => ⟨rfl, rfl, nofun⟩
  | _, _, .cons h hs => by
    obtain ⟨a, b, c⟩ := vds_zip hs
    refine ⟨by simp [a], by simp [b], fun p hp => ?_⟩
    rcases List.mem_cons.mp hp with e | hp
    · rw [e]; exact h
    · exact c p hp
theorem vds_pairs : ∀ {ps : List (V × D)}, (∀ p ∈ ps, VD K L H p.1 p.2) → VDs K L H (ps.map (·.1)) (ps.map (·.2))
  | [], _ => .nil
  | p :: ps, h => .cons (h p List.mem_cons_self) (vds_pairs fun q hq => h q (List.mem_cons_of_mem _ hq))
def rSrtAll (K : PySem.W.Frag) : List V → Hp → VK → Prop := fun xs H Q => rSrtL K xs H Q ∨ rSD xs H Q
theorem cs_sorted : CallS K (rSrtAll K) opSorted := by
  intro L H xs ds res Q hx hL h q
  have go : ∀ {vs : List V} {es : List D} (a : Addr), VDs K L H vs es → (SqL K H a vs ∨ SqT K H a vs) → srtB es = true → (∀ v H', Ext H H' → RO K L H H' v (.fr (.lst (es.mergeSort leD))) → Q v H') → rSrtL K [V.ref a] H Q := by
    intro vs es a hv hs hb q
    obtain ⟨z1, z2, z3⟩ := vds_zip hv
    refine ⟨a, vs.zip es, rfl, by rw [z1]; exact hs, fun p hp => ?_, by rw [z2]; exact hb, fun p hp => ?_⟩
    · refine (z3 p hp).dp (shp_lay ?_)
      unfold srtB at hb
      rw [Bool.and_eq_true] at hb
      have := List.all_eq_true.mp hb.1 p.2 (by rw [← z2]; exact List.mem_map.mpr ⟨p, hp, rfl⟩)
      rw [Bool.and_eq_true] at this
      exact this.1
    · refine q _ _ (Ext.new hp) (roLst hp ?_)
      have := vds_pairs (ps := srtP (vs.zip es)) (K := K) (L := L) (H := H) fun p hp => z3 p (srtP_mem.mp hp)
      rw [srtP_snd, z2] at this
      exact this
  unfold opSorted at h
  split at h
  · rename_i es
    split at h
    · rename_i hb
      cases h
      cases hx with
      | cons h1 h2 =>
        cases h2
        obtain ⟨a, vs, rfl, hr, hv⟩ := h1
        exact .inl (go a hv (.inl (.inl (.inl hr))) hb q)
    · cases h
  · rename_i es
    split at h
    · rename_i hb
      cases h
      cases hx with
      | cons h1 h2 =>
        cases h2
        obtain ⟨a, vs, rfl, hn, hr, hv⟩ := h1
        exact .inl (go a hv (.inr (.inl (.inl hr))) hb q)
    · cases h
  · rename_i kvs
    split at h
    · rename_i hb
      cases h
      cases hx with
      | cons h1 h2 =>
        cases h2
        obtain ⟨a, kvs', rfl, hr, hk, hv⟩ := h1
        refine .inr ⟨a, kvs', rfl, hr, by rw [hk]; exact hb, fun p hp => q _ _ (Ext.new hp) (roLst hp ?_)⟩
        rw [hk]
        exact kD_vds _
    · cases h
  · cases h
end
section
variable {X : Cx} {e : Expr} {ge : GE} {p p2 q pos : Pos} {k : Nat}
theorem cr_sorted (hc : X.calm = true) (hu : X.A.units + 66 < cLine) : CallR X (.builtin "sorted") (rSrtAll X.K) := fun pins s σ H vs us Q I r h => h.elim (fun h => cr_srtL hu pins s σ H vs us Q I r h) fun h => cr_sortD hc hu pins s σ H vs us Q I r h
theorem hu66 {A : Around} (hr : Room k A) : A.units + 66 < cLine := by have := hr.un; omega
theorem d_sorted (hr : Room k X.A) (hm : X.mg "sorted" = none) (ha : DE X e ge) (hc : X.calm = true := by rfl) (hg : Gl X "sorted" := by rfl) (hs : starEach [e] X.env = (false, eval e X.env) :: starEach [] X.env := by rfl) (hpl : (backTo pos (starEach [] X.env)).any (·.1) = false := by rfl) : DE X (.Call (.Name "sorted" p) [e] [] pos) (gBlt opSorted (gA1 ge gA0)) :=
  de_blt (cr_sorted hc (hu66 hr)) cs_sorted hg hm boot_sorted' (da_cons ha da_nil hs) (by decide) (by decide) hs hpl
theorem d_sortSet (hr : Room k X.A) (hm : X.mg "sorted" = none) (hm2 : X.mg "set" = none) (ha : DE X e ge) (hc : X.calm = true := by rfl) (hg : Gl X "sorted" := by rfl) (hg2 : Gl X "set" := by rfl) (hs : starEach [e] X.env = (false, eval e X.env) :: starEach [] X.env := by rfl) : DE X (.Call (.Name "sorted" p) [.Call (.Name "set" p2) [e] [] q] [] pos) (gUn opSS ge) :=
  pe_imp (pe_sortSet hc (hu66 hr) hg hm hg2 hm2 ha hs) (un_of us_ss)
theorem d_lenSet (hm : X.mg "len" = none) (hm2 : X.mg "set" = none) (ha : DE X e ge) (hc : X.calm = true := by rfl) (hg : Gl X "len" := by rfl) (hg2 : Gl X "set" := by rfl) (hs : starEach [e] X.env = (false, eval e X.env) :: starEach [] X.env := by rfl) : DE X (.Call (.Name "len" p) [.Call (.Name "set" p2) [e] [] q] [] pos) (gUn opLS ge) :=
  pe_imp (pe_lenSetM hc hg hm hg2 hm2 ha hs) (un_of us_ls)
end
end DL

set_option Elab.async false
set_option linter.all false
set_option maxRecDepth 100000
set_option maxHeartbeats 4000000
/-! short words for the printed derivations -/
namespace DL
open PySem PySem.Spec PyProof.Rows L2
section
variable {X : Cx} {a b c e f o : Expr} {es : List Expr} {ga gb gc ge go gf : GE} {gs : GA} {p p2 pos apos cpos : Pos} {k : Nat}
theorem dv (i : Nat) {x : Str} {pos : Pos} (hN : X.N[i]? = some x := by rfl) (hv : Vis X.env.scope x := by first | exact Or.inl rfl | exact Or.inr (Or.inl rfl) | exact Or.inr (Or.inr rfl)) (hd : (x == ("__debug__" : Str)) = false := by decide)
    (hcd : (x == ("__classdict__" : Str)) = false := by decide) : DE X (.Name x pos) (gVar i) := de_var hN hv hd hcd
theorem d_add (ha : DE X a ga) (hb : DE X b gb) : DE X (.BinOp a .Add b pos) (gOp opAdd ga gb) := de_op op_addD os_add ha hb
theorem d_sub (ha : DE X a ga) (hb : DE X b gb) : DE X (.BinOp a .Sub b pos) (gOp opSub ga gb) := de_op op_subD os_sub ha hb
theorem d_mul (ha : DE X a ga) (hb : DE X b gb) : DE X (.BinOp a .Mult b pos) (gOp opMul ga gb) := de_op op_mulD os_mul ha hb
theorem d_fdiv (ha : DE X a ga) (hb : DE X b gb) : DE X (.BinOp a .FloorDiv b pos) (gOp opFdiv ga gb) := de_op op_fdivD os_fdiv ha hb
theorem d_mod (ha : DE X a ga) (hb : DE X b gb) : DE X (.BinOp a .Mod b pos) (gOp opMod ga gb) := de_op op_modN os_mod ha hb
theorem d_pow (ha : DE X a ga) (hb : DE X b gb) : DE X (.BinOp a .Pow b pos) (gOp opPow ga gb) := de_op op_pow os_pow ha hb
theorem d_neg (ha : DE X a ga) : DE X (.UnaryOp .USub a pos) (gUn opNeg ga) := de_un un_neg us_neg ha
theorem hu64 {A : Around} (hr : Room k A) : A.units + 64 < cLine := hr.units
theorem hu65 {A : Around} (hr : Room k A) : A.units + 65 < cLine := by have := hr.un; omega
theorem hu1 {A : Around} (hr : Room k A) : A.units + 1 < cLine := by have := hr.un; omega
theorem d_eq (hr : Room k X.A) (ha : DE X a ga) (hb : DE X b gb) : DE X (.Compare a [.Eq] [b] pos) (gOp opEq ga gb) := de_cmp (op_eqD (hu64 hr)) os_eq ha hb (nomark _)
theorem d_ne (hr : Room k X.A) (ha : DE X a ga) (hb : DE X b gb) : DE X (.Compare a [.NotEq] [b] pos) (gOp opNe ga gb) := de_cmp (op_neD (hu64 hr)) os_ne ha hb (nomark _)
theorem d_lt (ha : DE X a ga) (hb : DE X b gb) : DE X (.Compare a [.Lt] [b] pos) (gOp opLt ga gb) := de_cmp op_lt os_lt ha hb (nomark _)
theorem d_le (ha : DE X a ga) (hb : DE X b gb) : DE X (.Compare a [.LtE] [b] pos) (gOp opLe ga gb) := de_cmp op_le os_le ha hb (nomark _)
theorem d_gt (ha : DE X a ga) (hb : DE X b gb) : DE X (.Compare a [.Gt] [b] pos) (gOp opGt ga gb) := de_cmp op_gt os_gt ha hb (nomark _)
theorem d_ge (ha : DE X a ga) (hb : DE X b gb) : DE X (.Compare a [.GtE] [b] pos) (gOp opGe ga gb) := de_cmp op_ge os_ge ha hb (nomark _)
theorem d_is (ha : DE X a ga) (hb : DE X b gb) : DE X (.Compare a [.Is] [b] pos) (gOp opIs ga gb) := de_cmp op_isD os_is ha hb (nomark _)
theorem d_isn (ha : DE X a ga) (hb : DE X b gb) : DE X (.Compare a [.IsNot] [b] pos) (gOp opIsn ga gb) := de_cmp op_isnD os_isn ha hb (nomark _)
theorem d_in (hr : Room k X.A) (ha : DE X a ga) (hb : DE X b gb) (hm : behindInMarks .In b = false := by rfl) : DE X (.Compare a [.In] [b] pos) (gOp (opIn false) ga gb) := de_in (hu65 hr) ha hb hm
theorem d_nin (hr : Room k X.A) (ha : DE X a ga) (hb : DE X b gb) (hm : behindInMarks .NotIn b = false := by rfl) : DE X (.Compare a [.NotIn] [b] pos) (gOp (opIn true) ga gb) := de_nin (hu65 hr) ha hb hm
theorem t_eq (hr : Room k X.A) (ha : DE X a ga) (hb : DE X b gb) : DT X (.Compare a [.Eq] [b] pos) (gTest (gOp opEq ga gb)) := dt_cmp (op_eqD (hu64 hr)) os_eq ha hb (nomark _)
theorem t_ne (hr : Room k X.A) (ha : DE X a ga) (hb : DE X b gb) : DT X (.Compare a [.NotEq] [b] pos) (gTest (gOp opNe ga gb)) := dt_cmp (op_neD (hu64 hr)) os_ne ha hb (nomark _)
theorem t_lt (ha : DE X a ga) (hb : DE X b gb) : DT X (.Compare a [.Lt] [b] pos) (gTest (gOp opLt ga gb)) := dt_cmp op_lt os_lt ha hb (nomark _)
theorem t_le (ha : DE X a ga) (hb : DE X b gb) : DT X (.Compare a [.LtE] [b] pos) (gTest (gOp opLe ga gb)) := dt_cmp op_le os_le ha hb (nomark _)
theorem t_gt (ha : DE X a ga) (hb : DE X b gb) : DT X (.Compare a [.Gt] [b] pos) (gTest (gOp opGt ga gb)) := dt_cmp op_gt os_gt ha hb (nomark _)
theorem t_ge (ha : DE X a ga) (hb : DE X b gb) : DT X (.Compare a [.GtE] [b] pos) (gTest (gOp opGe ga gb)) := dt_cmp op_ge os_ge ha hb (nomark _)
theorem t_is (ha : DE X a ga) (hb : DE X b gb) : DT X (.Compare a [.Is] [b] pos) (gTest (gOp opIs ga gb)) := dt_cmp op_isD os_is ha hb (nomark _)
theorem t_isn (ha : DE X a ga) (hb : DE X b gb) : DT X (.Compare a [.IsNot] [b] pos) (gTest (gOp opIsn ga gb)) := dt_cmp op_isnD os_isn ha hb (nomark _)
theorem t_in (hr : Room k X.A) (ha : DE X a ga) (hb : DE X b gb) (hm : behindInMarks .In b = false := by rfl) : DT X (.Compare a [.In] [b] pos) (gTest (gOp (opIn false) ga gb)) := dt_in (hu65 hr) ha hb hm
theorem t_nin (hr : Room k X.A) (ha : DE X a ga) (hb : DE X b gb) (hm : behindInMarks .NotIn b = false := by rfl) : DT X (.Compare a [.NotIn] [b] pos) (gTest (gOp (opIn true) ga gb)) := dt_nin (hu65 hr) ha hb hm
theorem d_ix (hr : Room k X.A) (ha : DE X a ga) (hb : DE X b gb) (hs : PlainIx b := by exact fun _ _ => rfl) : DE X (.Subscript a b pos) (gOp opIx ga gb) := de_ix (hu1 hr) ha hb hs
theorem bt_len : bootBuiltins "len" = some (.builtin "len") := by decide +kernel
theorem bt_int : bootBuiltins "int" = some (.type "int") := by decide +kernel
theorem bt_abs : bootBuiltins "abs" = some (.builtin "abs") := by decide +kernel
theorem bt_sum : bootBuiltins "sum" = some (.builtin "sum") := by decide +kernel
theorem bt_any : bootBuiltins "any" = some (.builtin "any") := by decide +kernel
theorem bt_all : bootBuiltins "all" = some (.builtin "all") := by decide +kernel
theorem bt_max : bootBuiltins "max" = some (.builtin "max") := by decide +kernel
theorem bt_min : bootBuiltins "min" = some (.builtin "min") := by decide +kernel
theorem bt_tuple : bootBuiltins "tuple" = some (.type "tuple") := by decide +kernel
theorem bt_list : bootBuiltins "list" = some (.type "list") := by decide +kernel
theorem bt_bool : bootBuiltins "bool" = some (.type "bool") := by decide +kernel
theorem bt_str : bootBuiltins "str" = some (.type "str") := by decide +kernel
theorem bt_sorted : bootBuiltins "sorted" = some (.builtin "sorted") := by decide +kernel
theorem bt_set : bootBuiltins "set" = some (.type "set") := by decide +kernel
theorem bt_dict : bootBuiltins "dict" = some (.type "dict") := by decide +kernel
theorem d_len (hm : X.mg "len" = none) (ha : DE X e ge) (hg : Gl X "len" := by rfl) (hs : starEach [e] X.env = (false, eval e X.env) :: starEach [] X.env := by rfl) (hpl : (backTo pos (starEach [] X.env)).any (·.1) = false := by rfl) : DE X (.Call (.Name "len" p) [e] [] pos) (gBlt opLen (gA1 ge gA0)) :=
  de_blt call_lenD2 cs_len hg hm bt_len (da_cons ha da_nil hs) (by decide) (by decide) hs hpl
theorem d_int (hm : X.mg "int" = none) (ha : DE X e ge) (hg : Gl X "int" := by rfl) (hs : starEach [e] X.env = (false, eval e X.env) :: starEach [] X.env := by rfl) (hpl : (backTo pos (starEach [] X.env)).any (·.1) = false := by rfl) : DE X (.Call (.Name "int" p) [e] [] pos) (gBlt opInt (gA1 ge gA0)) :=
  de_ty call_int1 cs_int hg hm bt_int (da_cons ha da_nil hs) (by decide) (by decide) hs hpl
theorem d_abs (hm : X.mg "abs" = none) (ha : DE X e ge) (hg : Gl X "abs" := by rfl) (hs : starEach [e] X.env = (false, eval e X.env) :: starEach [] X.env := by rfl) (hpl : (backTo pos (starEach [] X.env)).any (·.1) = false := by rfl) : DE X (.Call (.Name "abs" p) [e] [] pos) (gBlt opAbs (gA1 ge gA0)) :=
  de_blt call_abs cs_abs hg hm bt_abs (da_cons ha da_nil hs) (by decide) (by decide) hs hpl
theorem d_sum (hm : X.mg "sum" = none) (ha : DE X e ge) (hc : X.calm = true := by rfl) (hg : Gl X "sum" := by rfl) (hs : starEach [e] X.env = (false, eval e X.env) :: starEach [] X.env := by rfl) (hpl : (backTo pos (starEach [] X.env)).any (·.1) = false := by rfl) : DE X (.Call (.Name "sum" p) [e] [] pos) (gBlt opSum (gA1 ge gA0)) :=
  de_blt (cr_sum hc) cs_sum hg hm bt_sum (da_cons ha da_nil hs) (by decide) (by decide) hs hpl
theorem d_any (hm : X.mg "any" = none) (ha : DE X e ge) (hc : X.calm = true := by rfl) (hg : Gl X "any" := by rfl) (hs : starEach [e] X.env = (false, eval e X.env) :: starEach [] X.env := by rfl) (hpl : (backTo pos (starEach [] X.env)).any (·.1) = false := by rfl) : DE X (.Call (.Name "any" p) [e] [] pos) (gBlt opAny (gA1 ge gA0)) :=
  de_blt (cr_any hc) cs_any hg hm bt_any (da_cons ha da_nil hs) (by decide) (by decide) hs hpl
theorem d_all (hm : X.mg "all" = none) (ha : DE X e ge) (hc : X.calm = true := by rfl) (hg : Gl X "all" := by rfl) (hs : starEach [e] X.env = (false, eval e X.env) :: starEach [] X.env := by rfl) (hpl : (backTo pos (starEach [] X.env)).any (·.1) = false := by rfl) : DE X (.Call (.Name "all" p) [e] [] pos) (gBlt opAll (gA1 ge gA0)) :=
  de_blt (cr_all hc) cs_all hg hm bt_all (da_cons ha da_nil hs) (by decide) (by decide) hs hpl
theorem d_max1 (hm : X.mg "max" = none) (ha : DE X e ge) (hc : X.calm = true := by rfl) (hg : Gl X "max" := by rfl) (hs : starEach [e] X.env = (false, eval e X.env) :: starEach [] X.env := by rfl) (hpl : (backTo pos (starEach [] X.env)).any (·.1) = false := by rfl) : DE X (.Call (.Name "max" p) [e] [] pos) (gBlt opMaxL (gA1 ge gA0)) :=
  de_blt (cr_max hc) cs_maxL hg hm bt_max (da_cons ha da_nil hs) (by decide) (by decide) hs hpl
theorem d_min1 (hm : X.mg "min" = none) (ha : DE X e ge) (hc : X.calm = true := by rfl) (hg : Gl X "min" := by rfl) (hs : starEach [e] X.env = (false, eval e X.env) :: starEach [] X.env := by rfl) (hpl : (backTo pos (starEach [] X.env)).any (·.1) = false := by rfl) : DE X (.Call (.Name "min" p) [e] [] pos) (gBlt opMinL (gA1 ge gA0)) :=
  de_blt (cr_min hc) cs_minL hg hm bt_min (da_cons ha da_nil hs) (by decide) (by decide) hs hpl
theorem d_max2 (hm : X.mg "max" = none) (ha : DE X e ge) (hb : DE X f gf) (hc : X.calm = true := by rfl) (hg : Gl X "max" := by rfl) (hs : starEach [e, f] X.env = (false, eval e X.env) :: starEach [f] X.env := by rfl) (hs2 : starEach [f] X.env = (false, eval f X.env) :: starEach [] X.env := by rfl) (hpl : (backTo pos (starEach [f] X.env)).any (·.1) = false := by rfl) : DE X (.Call (.Name "max" p) [e, f] [] pos) (gBlt opMax2 (gA1 ge (gA1 gf gA0))) :=
  de_blt (call_max2 hc) cs_max2 hg hm bt_max (da_cons ha (da_cons hb da_nil hs2) hs) (by decide) (by decide) hs hpl
theorem d_min2 (hm : X.mg "min" = none) (ha : DE X e ge) (hb : DE X f gf) (hc : X.calm = true := by rfl) (hg : Gl X "min" := by rfl) (hs : starEach [e, f] X.env = (false, eval e X.env) :: starEach [f] X.env := by rfl) (hs2 : starEach [f] X.env = (false, eval f X.env) :: starEach [] X.env := by rfl) (hpl : (backTo pos (starEach [f] X.env)).any (·.1) = false := by rfl) : DE X (.Call (.Name "min" p) [e, f] [] pos) (gBlt opMin2 (gA1 ge (gA1 gf gA0))) :=
  de_blt (call_min2 hc) cs_min2 hg hm bt_min (da_cons ha (da_cons hb da_nil hs2) hs) (by decide) (by decide) hs hpl
theorem d_tuple (hm : X.mg "tuple" = none) (ha : DE X e ge) (hg : Gl X "tuple" := by rfl) (hs : starEach [e] X.env = (false, eval e X.env) :: starEach [] X.env := by rfl) (hpl : (backTo pos (starEach [] X.env)).any (·.1) = false := by rfl) : DE X (.Call (.Name "tuple" p) [e] [] pos) (gBlt opTuple (gA1 ge gA0)) :=
  de_ty call_tuple_of cs_tuple hg hm bt_tuple (da_cons ha da_nil hs) (by decide) (by decide) hs hpl
theorem d_list (hm : X.mg "list" = none) (ha : DE X e ge) (hg : Gl X "list" := by rfl) (hs : starEach [e] X.env = (false, eval e X.env) :: starEach [] X.env := by rfl) (hpl : (backTo pos (starEach [] X.env)).any (·.1) = false := by rfl) : DE X (.Call (.Name "list" p) [e] [] pos) (gBlt opList (gA1 ge gA0)) :=
  de_ty call_list_of cs_list hg hm bt_list (da_cons ha da_nil hs) (by decide) (by decide) hs hpl
theorem d_isi (T : String) {nT : Str} (hm : X.mg "isinstance" = none) (hmT : X.mg nT = none) (hvT : bootBuiltins nT = some (.type T)) (he : DE X e ge) (hg : Gl X "isinstance" := by rfl) (hgT : Gl X nT := by rfl)
    (hnT : nT ≠ "__name__" := by decide) (hdT : (nT == ("__debug__" : Str)) = false := by decide)
    (hs : starEach [e, .Name nT p2] X.env = (false, eval e X.env) :: starEach [.Name nT p2] X.env := by rfl) (hs2 : starEach [.Name nT p2] X.env = (false, eval (.Name nT p2) X.env) :: starEach [] X.env := by rfl)
    (hpl : (backTo pos (starEach [.Name nT p2] X.env)).any (·.1) = false := by rfl) : DE X (.Call (.Name "isinstance" p) [e, .Name nT p2] [] pos) (gIsi T ge) := de_isi hg hm hgT hmT hvT he hnT hdT hs hs2 hpl
theorem d_get (hr : Room k X.A) (ho : DE X o go) (he : DE X e ge) (hf : DE X f gf) (m : M2 X o "get" apos e f cpos := by exact ⟨rfl, rfl, rfl, rfl⟩) : DE X (.Call (.Attribute o "get" apos) [e, f] [] cpos) (gGet go ge gf) := de_get (hu1 hr) ho he hf m
end
/-- a, b = x, y with plain local names -/
def gPar (i j : Nat) (gs : GA) : GS := fun env st => match gs env st with
  | some ([r1, r2], st1) => some (.nx ((env.set i (some r1)).set j (some r2)) st1)
  | _ => none
def gPar3 (i j l : Nat) (gs : GA) : GS := fun env st => match gs env st with
  | some ([r1, r2, r3], st1) => some (.nx (((env.set i (some r1)).set j (some r2)).set l (some r3)) st1)
  | _ => none
section
variable {X : Cx} {gs : GA} {i j l : Nat} {x y z : Str} {a b c : Expr} {px py pz pt pos : Pos} {kt k2 : Nat} {pt2 : Pos}
theorem ds_par (hN : X.N.Nodup) (ha : DA X [a, b] gs) (hc : X.calm = true := by rfl) (hi : X.N[i]? = some x := by rfl) (hj : X.N[j]? = some y := by rfl) (hij : i ≠ j := by decide)
    (hx : X.env.scope.names.lookup x = some .local := by rfl) (hy : X.env.scope.names.lookup y = some .local := by rfl)
    (hw : swappedStores [.Tuple [.Name x px, .Name y py] kt pt] (.Tuple [a, b] k2 pt2) X.env = pure (some [x, y]) := by rfl)
    (hs : swapsWithSole [.Tuple [.Name x px, .Name y py] kt pt] (.Tuple [a, b] k2 pt2) pos.line X.env = pure false := by rfl) :
    DS X (.Assign [.Tuple [.Name x px, .Name y py] kt pt] (.Tuple [a, b] k2 pt2) pos) (gPar i j gs) := ps_imp (ps_par hc hN hi hj hij hx hy ha hw hs) fun Dn σ H h => by
  obtain ⟨M, L, env, st, o, er, sr, hg, q⟩ := h
  unfold gPar at hg
  split at hg
  · rename_i r1 r2 st1 e1
    cases hg
    refine ⟨M, L, env, st, _, _, er, sr, e1, fun vs H1 f1 s1 rr => ?_⟩
    cases rr with
    | cons h1 t => cases t with
      | cons h2 t =>
        cases t
        exact ⟨_, _, rfl, NPost.go q (((er.fr f1).set h1).set h2) s1 f1⟩
  · cases hg
theorem ds_par3 (hN : X.N.Nodup) (ha : DA X [a, b, c] gs) (hc : X.calm = true := by rfl) (hi : X.N[i]? = some x := by rfl) (hj : X.N[j]? = some y := by rfl) (hl : X.N[l]? = some z := by rfl) (hij : i ≠ j := by decide) (hil : i ≠ l := by decide) (hjl : j ≠ l := by decide)
    (hx : X.env.scope.names.lookup x = some .local := by rfl) (hy : X.env.scope.names.lookup y = some .local := by rfl) (hz : X.env.scope.names.lookup z = some .local := by rfl)
    (hw : swappedStores [.Tuple [.Name x px, .Name y py, .Name z pz] kt pt] (.Tuple [a, b, c] k2 pt2) X.env = pure (some [x, y, z]) := by rfl)
    (hs : swapsWithSole [.Tuple [.Name x px, .Name y py, .Name z pz] kt pt] (.Tuple [a, b, c] k2 pt2) pos.line X.env = pure false := by rfl) :
    DS X (.Assign [.Tuple [.Name x px, .Name y py, .Name z pz] kt pt] (.Tuple [a, b, c] k2 pt2) pos) (gPar3 i j l gs) := ps_imp (ps_par3 hc hN hi hj hl hij hil hjl hx hy hz ha hw hs) fun Dn σ H h => by
  obtain ⟨M, L, env, st, o, er, sr, hg, q⟩ := h
  unfold gPar3 at hg
  split at hg
  · rename_i r1 r2 r3 st1 e1
    cases hg
    refine ⟨M, L, env, st, _, _, er, sr, e1, fun vs H1 f1 s1 rr => ?_⟩
    cases rr with
    | cons h1 t => cases t with
      | cons h2 t => cases t with
        | cons h3 t =>
          cases t
          exact ⟨_, _, _, rfl, NPost.go q ((((er.fr f1).set h1).set h2).set h3) s1 f1⟩
  · cases hg
end
section
variable {P : Program} {w : World} {K : PySem.W.Frag} {mg : Str → Option Value} {base : Heap}
theorem fn_zero {f : Addr} {fd : FuncData} {ps : List Str} {n : Nat} (h : ps.length = n) : FnOk P w K mg base CX0 0 f fd ps (spOf K n fun _ _ => none) :=
  ⟨fun vs H Q E h2 => (by obtain ⟨M, L, st, rs, r, st', _, _, _, e, _⟩ := h2; cases e), fun A outer s H args us vs Q E _ _ _ _ h2 => (by obtain ⟨M, L, st, rs, r, st', _, _, _, e, _⟩ := h2; cases e)⟩
end
end DL

set_option Elab.async false
set_option linter.all false
set_option maxRecDepth 100000
set_option maxHeartbeats 4000000
/-! ranges beyond the machine's words -/
namespace DL
open PySem PySem.Spec PyProof.Rows L2
open Sem (wp)
theorem slot_lr_next : Slot "longrange_iterator" "__next__" "longrange_iterator.__next__" :=
  .of (owner := "longrange_iterator") (n := "__next__") (by rw [typeLookup_type, builtinLookup_eq_fast]; kernel_rfl) (by decide +kernel) (by decide +kernel) (by decide +kernel) (by first | exact .inl (by decide +kernel) | exact .inr (by decide +kernel)) (by rw [isSubtype_type]; kernel_rfl)
theorem entry_lr_next : entryFor table "longrange_iterator.__next__" = some Builtin.«longrange_iterator.__next__» := entryFor_of_fast (by kernel_rfl)
theorem args_lr_next (a : Value) : argsOk "longrange_iterator.__next__" ⟨[a], []⟩ := by unfold argsOk; kernel_rfl
theorem slot_lr_iter : Slot "longrange_iterator" "__iter__" "longrange_iterator.__iter__" :=
  .of (owner := "longrange_iterator") (n := "__iter__") (by rw [typeLookup_type, builtinLookup_eq_fast]; kernel_rfl) (by decide +kernel) (by decide +kernel) (by decide +kernel) (by first | exact .inl (by decide +kernel) | exact .inr (by decide +kernel)) (by rw [isSubtype_type]; kernel_rfl)
theorem entry_lr_iter : entryFor table "longrange_iterator.__iter__" = some Builtin.«dict_keyiterator.__iter__» := entryFor_alias (id' := "dict_keyiterator.__iter__") (by kernel_rfl) rfl (by decide +kernel) (by kernel_rfl)
theorem args_lr_iter (a : Value) : argsOk "longrange_iterator.__iter__" ⟨[a], []⟩ := by unfold argsOk; kernel_rfl
abbrev IsLong (h : Heap) (it : Addr) (x left step : Int) : Prop := h.get? it = some { cls := .type "longrange_iterator", dict := none, data := .fields #[rawInt x, rawInt left, rawInt step], slots := #[] }
section
variable {prog : Program} {w : World} {A : Around} {E : Value → Shared → Prop} {s : Shared}
theorem iter_long {r : Addr} {a b c : Int} {t u v : Tok} {Q : Value → Shared → Prop} (hr : IsRange s.heap r a b c t u v) (hl : Builtin.Range.small a b c = false)
    (hQ : Q (.ref s.heap.objs.size) { s with heap := s.heap.push { cls := .type "longrange_iterator", data := .fields #[rawInt a, rawInt (Builtin.Range.rangeSize a b c), rawInt c] } }) :
    wpAny (model prog w) A (pyIter (.ref r)) Q E s := by
  have hT : s.TypeIs (.ref r) "range" := ⟨_, hr, rfl⟩
  refine wpAny_pyIter_slot hT F.slot_range_iter (call_meets F.slot_range_iter hT F.entry_range_iter (F.args_range_iter_1 _)
    (AutoRange.range___iter___range_0 r a b c t u v (by unfold Builtin.Range.small at hl; simp [hl])) ⟨hr, ?_⟩)
  unfold Builtin.Range.small at hl
  simp only [hl, Bool.false_eq_true, if_false]
  exact ⟨"longrange_iterator", _, ⟨_, Heap.get?_push_size _ rfl, rfl⟩, slot_lr_next.lookup, hQ⟩
theorem meets_lr (it : Addr) (x left step : Int) (hc0 : ¬left ≤ 0) :
    Meets (Builtin.«longrange_iterator.__next__» ⟨[.ref it], []⟩) (fun _ R s => IsLong s.heap it x left step ∧ R (.ok (.ret (Value.int x s.toks))) { s with heap := (s.heap.update it (Obj.mapFields fun q => q.setIfInBounds 0 (rawInt (x + step)))).update it (Obj.mapFields fun q => q.setIfInBounds 1 (rawInt (left - 1))), toks := s.toks + 1 }) :=
  .of_wp fun prog w A R s h => by obtain ⟨hp, g, d, tk, os⟩ := s; obtain ⟨hl, h⟩ := h; wp_walk; exact ⟨_, rfl, h⟩
end
end DL

set_option Elab.async false
set_option linter.all false
set_option maxRecDepth 100000
set_option maxHeartbeats 4000000
/-! .. as iterators of the layer -/
namespace DL
open PySem PySem.Spec PyProof.Rows L2
open Sem (wp)
section
variable {prog : Program} {w : World} {A : Around} {E : Value → Shared → Prop} {s : Shared}
theorem next_lr {it : Addr} {x left step : Int} {Q : Option Value → Shared → Prop} (hit : IsLong s.heap it x left step) (hleft : 0 < left)
    (hQ : ∀ h', IsLong h' it (x + step) (left - 1) step → Heap.SameBut it s.heap h' → Q (some (.int x s.toks)) { s with heap := h', toks := s.toks + 1 }) : wpAny (model prog w) A (pyNext (.ref it)) Q E s := by
  have hT : s.TypeIs (.ref it) "longrange_iterator" := ⟨_, hit, rfl⟩
  unfold pyNext
  refine wpAny_bind (wpAny_attempt (wpAny_callSpecial?_slot (name := Str.ofString "__next__") hT slot_lr_next (call_meets slot_lr_next hT entry_lr_next (args_lr_next _) (meets_lr it x left step (by omega)) ⟨hit, ?_⟩)))
  exact wpAny_pure (hQ _ (Heap.get?_update_self _ (Heap.get?_update_self _ hit rfl) rfl) ((Heap.SameBut.update ..).trans (Heap.SameBut.update ..)))
theorem end_lr {it : Addr} {x left step : Int} {Q : Option Value → Shared → Prop} (hh : A.handled = none) (hit : IsLong s.heap it x left step) (hleft : left ≤ 0)
    (hQ : ∀ h', Heap.ExtBut it s.heap h' → Q none { s with heap := h' }) : wpAny (model prog w) A (pyNext (.ref it)) Q E s := by
  have hT : s.TypeIs (.ref it) "longrange_iterator" := ⟨_, hit, rfl⟩
  unfold pyNext
  refine wpAny_bind (wpAny_attempt (wpAny_callSpecial?_slot (name := Str.ofString "__next__") hT slot_lr_next (wpAny_call_entry slot_lr_next hT entry_lr_next ?_ (args_lr_next _))))
  unfold Builtin.«longrange_iterator.__next__» Builtin.Iterators_pickling.intField
  have hb : bound "longrange_iterator.__next__" ⟨[Value.ref it], []⟩ = pure #[some (Value.ref it)] := by kernel_rfl
  refine wpAny_bind (wpAny_of_eq hb ?_)
  refine wpAny_bind (wpAny_bind (wpAny_field hit rfl (x := rawInt x) rfl (wpAny_pure ?_)))
  refine wpAny_bind (wpAny_bind (wpAny_field hit rfl (x := rawInt left) rfl (wpAny_pure ?_)))
  refine wpAny_bind (wpAny_bind (wpAny_field hit rfl (x := rawInt step) rfl (wpAny_pure ?_)))
  dsimp only
  rw [if_pos hleft]
  refine wpAny_bind (wpAny_rule ?_)
  refine wpAny_bind ?_
  simp only [newExc, newTuple]
  refine wpAny_bind (wpAny_newObj_type ?_ (by size_fits))
  refine wpAny_bind (m := firstArgMember _ _) (wpAny_of_eq (a := Value.none) (by first | rfl | (simp only [firstArgMember]; rfl)) (wpAny_newObj_type ?_ (by size_fits)))
  refine wpAny_bind ?_
  simp only [raiseNew]
  refine wpAny_bind (wpAny_handled ?_)
  rw [show A.in1.handled = none from hh]
  refine wpAny_bind (wpAny_pure (wpAny_throw ?_))
  refine wpAny_bind (wpAny_isInstance (T := "StopIteration") (b := true) ⟨_, Heap.get?_push_size _ rfl, rfl⟩ isSubtype_stop ?_)
  refine wpAny_pure ?_
  exact hQ _ (((Heap.ExtBut.refl it s.heap).push _).push _)
theorem self_lr {it : Addr} {x left step : Int} {Q : Value → Shared → Prop} (hit : IsLong s.heap it x left step) (h : Q (.ref it) s) : wpAny (model prog w) A (pyIter (.ref it)) Q E s := by
  have hT : s.TypeIs (.ref it) "longrange_iterator" := ⟨_, hit, rfl⟩
  refine wpAny_pyIter_slot hT slot_lr_iter (wpAny_call_entry slot_lr_iter hT entry_lr_iter ?_ (args_lr_iter _))
  show wpAny _ _ (ret (.ref it)) _ _ s
  exact wpAny_pure ⟨_, rfl, "longrange_iterator", _, hT, slot_lr_next.lookup, h⟩
end
theorem walks_long {prog : Program} {w : World} {A : Around} (hh : A.handled = none) (I : Addr) (a : Int) (n : Nat) :
    Walks prog w A I [I] [I] n (fun i v => ∃ t, v = .int (a + i) t) (fun i h => IsLong h I (a + (i : Nat)) ((n : Int) - (i : Nat)) 1) where
  sub := fun _ hb => hb
  frame := fun _ _ _ st hk => hk I (by simp) _ st
  item := fun i s Q E hi st hQ => by
    refine next_lr st (by omega) fun h' hit' hs' => hQ _ h' _ ⟨_, rfl⟩ ?_ fun b o hb e => hs'.extBut b o (fun h => hb (by simp [h])) e
    have e1 : a + ((i + 1 : Nat) : Int) = a + (i : Int) + 1 := by push_cast; omega
    have e2 : (n : Int) - ((i + 1 : Nat) : Int) = (n : Int) - (i : Int) - 1 := by push_cast; omega
    rw [e1, e2]; exact hit'
  done := fun s Q E st hQ => end_lr hh st (by omega) fun h' he' => hQ h' s.toks fun b o hb e => he' b o (fun h => hb (by simp [h])) e
  self := fun _ _ _ _ st hQ => self_lr st hQ
theorem turn_long {P : Program} {w : World} {K : PySem.W.Frag} {tg : Expr} (it : Addr) (lo : Int) (n : Nat) : Turn P w K tg (Itr lo n) [it] it (fun i h => IsLong h it (lo + (i : Nat)) ((n : Int) - (i : Nat)) 1) where
  mem := by simp
  obj := fun i h st b hb => by
    obtain rfl : b = it := by simpa using hb
    exact ⟨_, st, fun v z => nomatch (show Data.fields _ = Data.cell v from z)⟩
  keep := fun i h h' st k => k it (by simp) _ st
  item := by
    intro X hP hw hK hc i pins s σ H E I hf st hg
    subst hP hw hK
    obtain ⟨f0, f1, f2, f3, f4, f5⟩ := hf it (by simp)
    refine (walks_long (prog := X.prog) (w := X.w) (I.ok.hd hc) it lo n).item i s _ _ hg st fun v h' tk hv st' kk => ?_
    obtain ⟨t, rfl⟩ := hv
    have I1 : Inv X pins σ H { s with heap := h', toks := tk } := I.turned (fun b o hb e => kk b o (by simpa using hb) e) f0 f1 f3 f4 f5
    exact ⟨_, rfl, go_of (s := { s with heap := h', toks := tk }) (n := "longrange_iterator") st' rfl rfl (by decide) ⟨.int (lo + i), H, I1, ⟨t, rfl⟩, ⟨rfl, rfl⟩, st', fun b hb => (hf b hb).1⟩⟩
  done := by
    intro X hP hw hK hc i pins s σ H E I hf st hg
    subst hP hw hK
    obtain ⟨f0, f1, f2, f3, f4, f5⟩ := hf it (by simp)
    exact end_lr (I.ok.hd hc) st (by have : n ≤ i := hg; omega) fun h' eb => ⟨rfl, I.turned (t' := s.toks) (fun b o hb e => eb b o hb e) f0 f1 f3 f4 f5⟩
  self := fun _ _ _ _ _ st h => self_lr st h
section
variable {X : Cx} {tg : Expr}
/-- a range object just made, of any numbers, walked -/
theorem range_any {pins : List (Addr × Obj)} {σ : L2.St} {H : Hp} {s : Shared} {R : It → Hp → Prop} {E : Value → Shared → Prop} {lo hi : Int} {t u v : Tok} {tk : Nat} (I : Inv X pins σ H s)
    (q : R (Itr lo (hi - lo).toNat) H) : wpAny (model X.prog X.w) X.A (pyIter (.ref s.heap.objs.size)) (PIE X pins σ tg R) E { s with heap := s.heap.push { cls := .type "range", data := .fields #[.int lo t, .int hi u, .int 1 v] }, toks := tk } := by
  have I1 : Inv X pins σ H { s with heap := s.heap.push { cls := .type "range", data := .fields #[.int lo t, .int hi u, .int 1 v] }, toks := tk } := I.kept fun b o e => Heap.get?_push_of_some _ e
  have e2 : (((hi - lo).toNat : Nat) : Int) = Builtin.Range.rangeSize lo hi 1 := by rw [rangeSize_one]; split <;> omega
  cases hs : Builtin.Range.small lo hi 1 with
  | true =>
    refine wpAny_pyIter_range (IsRange.new ..) hs ⟨_, [_], _, _, H, rfl, I1.kept (t' := tk) fun b o e => Heap.get?_push_of_some _ e, turn_range _ lo (hi - lo).toNat, ?_, fun b hb => ?_, q⟩
    · show IsRangeIter _ _ (lo + ((0 : Nat) : Int) * 1) ((((hi - lo).toNat : Nat) : Int) - ((0 : Nat) : Int)) 1
      rw [show lo + ((0 : Nat) : Int) * 1 = lo by simp, show (((hi - lo).toNat : Nat) : Int) - ((0 : Nat) : Int) = Builtin.Range.rangeSize lo hi 1 by rw [← e2]; simp]
      exact Heap.get?_push_size _ rfl
    · obtain rfl : b = (s.heap.push { cls := .type "range", data := .fields #[.int lo t, .int hi u, .int 1 v] }).objs.size := by simpa using hb
      exact I1.fpOk (Nat.le_refl _) (I1.hok.fresh (Nat.le_refl _))
  | false =>
    refine iter_long (IsRange.new ..) hs ⟨_, [_], _, _, H, rfl, I1.kept (t' := tk) fun b o e => Heap.get?_push_of_some _ e, turn_long _ lo (hi - lo).toNat, ?_, fun b hb => ?_, q⟩
    · show IsLong _ _ (lo + ((0 : Nat) : Int)) ((((hi - lo).toNat : Nat) : Int) - ((0 : Nat) : Int)) 1
      rw [show lo + ((0 : Nat) : Int) = lo by simp, show (((hi - lo).toNat : Nat) : Int) - ((0 : Nat) : Int) = Builtin.Range.rangeSize lo hi 1 by rw [← e2]; simp]
      exact Heap.get?_push_size _ rfl
    · obtain rfl : b = (s.heap.push { cls := .type "range", data := .fields #[.int lo t, .int hi u, .int 1 v] }).objs.size := by simpa using hb
      exact I1.fpOk (Nat.le_refl _) (I1.hok.fresh (Nat.le_refl _))
/-- range(a, b), any numbers -/
def iRngA (ta : TA) : TI := fun σ H R => ta σ H fun vs H1 => ∃ i j : Int, vs = [.int i, .int j] ∧ R (Itr i (j - i).toNat) H1
theorem pi_rangeA {a b : Expr} {ta : TA} {p pos : Pos} (hg : Gl X "range") (hm : X.mg "range" = none) (ha : PA X [a, b] ta) (hs : starEach [a, b] X.env = [(false, eval a X.env), (false, eval b X.env)] := by rfl) (hs2 : starEach [b] X.env = [(false, eval b X.env)] := by rfl) :
    PI X tg (.Call (.Name "range" p) [a, b] [] pos) (iRngA ta) := by
  refine ⟨fun pins s σ H R I h => ?_⟩
  refine Call_ (ld_blt I hg hm boot_range (PyProof.Rows.callWith_type1 (thn (ha.run pos pins s σ H _ I h) fun us s1 ⟨vs, H1, I1, r1, q1⟩ => ?_) (by rw [hs, hs2]) (by rw [hs2]; rfl)))
  obtain ⟨i, j, rfl, q⟩ := q1
  cases r1 with
  | cons r rr =>
    cases rr with
    | cons r' rr =>
      cases rr
      obtain ⟨t, rfl⟩ := r
      obtain ⟨t', rfl⟩ := r'
      exact call_range_2 (range_any I1 q)
end
/-- range(a, b), any numbers, not too many -/
def gRngA (ga gb : GE) : GI := fun env st => match ga env st with
  | some (.d (.int i), st1) => (match gb env st1 with
    | some (.d (.int j), st2) => some ((rgD i (j - i).toNat, none), st2)
    | _ => none)
  | _ => none
section
variable {X : Cx} {tg a b : Expr} {ga gb : GE} {p pos : Pos}
theorem di_rangeA (hg : Gl X "range") (hm : X.mg "range" = none) (ha : DE X a ga) (hb : DE X b gb) (hs : starEach [a, b] X.env = [(false, eval a X.env), (false, eval b X.env)] := by rfl) (hs2 : starEach [b] X.env = [(false, eval b X.env)] := by rfl) : DI X tg (.Call (.Name "range" p) [a, b] [] pos) (gRngA ga gb) :=
  pi_imp (pi_rangeA hg hm (pa_cons ha (pa_cons hb pa_nil hs2) (by rw [hs, hs2])) hs hs2) fun σ H Q hq => by
    obtain ⟨M, L, env, st, xs, lk, st', er, sr, h, q⟩ := hq
    unfold gRngA at h
    split at h
    · rename_i i st1 e1
      split at h
      · rename_i j st2 e2
        cases h
        refine ⟨M, L, env, st, _, _, er, sr, e1, fun v H1 f1 s1 r1 => ?_⟩
        cases (show VD X.K (M ++ L) H1 v (.int i) from r1)
        refine ⟨M, L, env, st1, _, _, er.fr f1, s1, e2, fun v H2 f2 s2 r2 => ?_⟩
        cases (show VD X.K (M ++ L) H2 v (.int j) from r2)
        exact ⟨i, j, rfl, q _ H2 (f1.trans f2) s2 fun M' H' _ _ => vw_range⟩
      · cases h
    · cases h
end
end DL

set_option Elab.async false
set_option linter.all false
set_option maxRecDepth 100000
set_option maxHeartbeats 4000000
/-! x op= e -/
namespace DL
open PySem PySem.Spec PyProof.Rows L2
theorem noI_tuple : typeLookup (.type "tuple") (dunderI "add") = pure none := by rw [typeLookup_type, builtinLookup_eq_fast]; kernel_rfl
section
variable {X : Cx} {K : PySem.W.Frag}
theorem iop_catA : OpR X (inplaceOp .Add) (rCatA X.K) := by
  intro pins s σ H x y v u Q I rx ry h
  obtain ⟨a, b, xs, ys, rfl, rfl, ha, hb, hz, q0, q1, q2⟩ := h
  cases rx
  cases ry
  obtain ⟨its, r1, ⟨⟨cls, data, dd, sl⟩, ho, hc, n, hd⟩, _⟩ := I.tuple ha
  obtain ⟨its2, r2, ⟨⟨cls2, data2, dd2, sl2⟩, ho2, hc2, n2, hd2⟩, _⟩ := I.tuple hb
  simp only at hc hd hc2 hd2
  subst hc hd hc2 hd2
  have l1 := r1.length
  have l2 := r2.length
  by_cases hx : xs = []
  · subst hx
    cases r1
    exact wpAny_inplaceOp_concat ⟨_, ho, rfl⟩ ⟨_, ho2, rfl⟩ noI_tuple noFill_tuple_add seq_tuple_add (call_meets PySem.F.slot_tuple_add ⟨_, ho, rfl⟩ PySem.F.entry_tuple_add (PySem.F.args_tuple_add_2 _ _)
      (tuple_addW0 a b ([] : List Value).toArray its2.toArray n n2 _ _ sl sl2 (by simp)) ⟨ho, ho2, .ref b, H, I, rfl, q0 rfl⟩)
  · have h1 : its ≠ [] := fun e => hx (List.eq_nil_of_length_eq_zero (by rw [l1, e]; rfl))
    by_cases hy : ys = []
    · subst hy
      cases r2
      exact wpAny_inplaceOp_concat ⟨_, ho, rfl⟩ ⟨_, ho2, rfl⟩ noI_tuple noFill_tuple_add seq_tuple_add (call_meets PySem.F.slot_tuple_add ⟨_, ho, rfl⟩ PySem.F.entry_tuple_add (PySem.F.args_tuple_add_2 _ _)
        (tuple_addW1 a b its.toArray ([] : List Value).toArray n n2 _ _ sl sl2 (by simpa using h1) (by simp)) ⟨ho, ho2, .ref a, H, I, rfl, q1 hx rfl⟩)
    · have h2 : its2 ≠ [] := fun e => hy (List.eq_nil_of_length_eq_zero (by rw [l2, e]; rfl))
      refine wpAny_inplaceOp_concat ⟨_, ho, rfl⟩ ⟨_, ho2, rfl⟩ noI_tuple noFill_tuple_add seq_tuple_add (call_meets PySem.F.slot_tuple_add ⟨_, ho, rfl⟩ PySem.F.entry_tuple_add (PySem.F.args_tuple_add_2 _ _)
        (tuple_addW2 a b its.toArray its2.toArray n n2 _ _ sl sl2 (by simpa using h1) (by simpa using h2) (by rw [List.size_toArray, List.size_toArray, ← l1, ← l2]; exact hz)) ⟨ho, ho2, ?_⟩)
      have e : its.toArray ++ its2.toArray = (its ++ its2).toArray := by simp
      rw [e]
      refine ⟨.ref _, _, I.laid (t' := s.toks) (o := .tup (xs ++ ys)) (fun b ob q => Heap.get?_push_of_some _ q) (Nat.le_refl _) ?_, rfl, q2 hx hy _ (I.hok.fresh (Nat.le_refl _))⟩
      exact ⟨by rw [List.length_append]; exact hz, its ++ its2, r1.append r2, _, Heap.get?_push_size _ rfl, rfl, 0, rfl⟩
/-- the augmented operators -/
def iAdd : D → D → Option R
  | .int i, .int j => some (.d (.int (i + j)))
  | .str x, .str y => if fits (x.length + y.length) then some (.d (.str (x ++ y))) else none
  | .tup xs, .tup ys => if fits (xs.length + ys.length) then some (.d (.tup (xs ++ ys))) else none
  | _, _ => none
def rIAdd (K : PySem.W.Frag) : R2 := fun x y H Q => rI0 (fun i j => .int (i + j)) x y H Q ∨ ((∃ i j, x = .str i ∧ y = .str j ∧ i.length + j.length ≤ sizeLine ∧ Q (.str (i ++ j)) H) ∨ rCatA K x y H Q)
theorem iop_addD : OpR X (inplaceOp .Add) (rIAdd X.K) := OpR.or iop_add (OpR.or iop_add_str iop_catA)
theorem os_iadd : OpS K (rIAdd K) iAdd := by
  intro L H x y dx dy res Q hx hy hL h q
  unfold iAdd at h
  split at h
  · rename_i i j
    cases h
    exact .inl ⟨i, j, hx, hy, q _ H (Ext.refl H) (.int _)⟩
  · rename_i a b
    split at h
    · rename_i hf
      cases h
      exact .inr (.inl ⟨a, b, hx, hy, hf, q _ H (Ext.refl H) (.str _)⟩)
    · cases h
  · rename_i xs ys
    split at h
    · rename_i hf
      cases h
      obtain ⟨a, vs, rfl, na, ea, ra⟩ := hx
      obtain ⟨b, ws, rfl, nb, eb, rb⟩ := hy
      refine .inr (.inr ⟨a, b, vs, ws, rfl, rfl, .inl (.inl ea), .inl (.inl eb), by rw [ra.length, rb.length]; exact hf, fun e => ?_, fun e1 e2 => ?_, fun e1 e2 p hp => ?_⟩)
      · have : xs = [] := ra.nil_iff.mp e
        subst this
        exact q _ H (Ext.refl H) (.tup nb eb rb)
      · have : ys = [] := rb.nil_iff.mp e2
        subst this
        rw [List.append_nil] at q
        exact q _ H (Ext.refl H) (.tup na ea ra)
      · exact q _ _ (Ext.new hp) (roTup hL hp (ra.append rb))
    · cases h
  · cases h
def iSub : D → D → Option R
  | .int i, .int j => some (.d (.int (i - j)))
  | _, _ => none
theorem os_isub : OpS K (rI0 fun i j => .int (i - j)) iSub := by
  intro L H x y dx dy res Q hx hy hL h q
  unfold iSub at h
  split at h
  · cases h
    exact ⟨_, _, hx, hy, q _ H (Ext.refl H) (.int _)⟩
  · cases h
def iMul : D → D → Option R
  | .int i, .int j => if mulOk i j then some (.d (.int (i * j))) else none
  | _, _ => none
theorem iop_mulD : OpR X (inplaceOp .Mult) (rI mulOk fun i j => .int (i * j)) := opI fun _ _ _ _ _ _ _ hc q => imul_int q hc.ok
theorem os_imul : OpS K (rI mulOk fun i j => .int (i * j)) iMul := by
  intro L H x y dx dy res Q hx hy hL h q
  unfold iMul at h
  split at h
  · split at h
    · rename_i hc
      cases h
      exact ⟨_, _, hx, hy, hc, q _ H (Ext.refl H) (.int _)⟩
    · cases h
  · cases h
def iFdiv : D → D → Option R
  | .int i, .int j => if 0 < j ∧ j < 1000000 then some (.d (.int (i / j))) else none
  | _, _ => none
end
section
variable {X : Cx} {i : Nat} {x : Str} {e : Expr} {ge : GE} {pos pos' : Pos} {op : Operator} {r : R2} {od : D → D → Option R}
/-- name op= e -/
theorem ds_augN (ho : OpR X (inplaceOp op) r) (hs : OpS X.K r od) (hN : X.N.Nodup) (hi : X.N[i]? = some x) (hx : Loc X.env.scope x) (he : DE X e ge) (hf : X.fn x = true ∨ X.env.scope.names.lookup x = some .local := by first | exact .inl rfl | exact .inr rfl | assumption) :
    DS X (.AugAssign (.Name x pos') op e pos) (gSet i (gOp od (gVar i) ge)) :=
  ps_imp (ps_aug (ti := r) hN hi hx he (fun pins s σ H a b v u Q I ra rb q => ho pins s σ H a b v u Q I ra rb q) hf) fun Dn σ H h => by
    obtain ⟨M, L, env, st, o, er, sr, hg, q⟩ := h
    unfold gSet at hg
    split at hg
    · rename_i z st1 e1
      cases hg
      unfold gOp gVar at e1
      split at e1
      · cases e1
      · rename_i ra s1 e2
        split at e2
        · rename_i r0 e3
          cases e2
          obtain ⟨v, hv, rv⟩ := er.at_ i ra e3
          refine ⟨v, hv, ?_⟩
          split at e1
          · cases e1
          · rename_i rb s2 e4
            split at e1
            · rename_i d1 d2 e5 e6
              cases eo : od d1 d2 with
              | none => rw [eo] at e1; cases e1
              | some res =>
                rw [eo] at e1
                cases e1
                refine ⟨M, L, env, _, rb, st1, er, sr, e4, fun w H1 f1 s1 r1 => ?_⟩
                refine hs (M ++ L) H1 v w d1 d2 z _ ((rv.fr f1).cur s1 e5) (r1.t.cur s1 (val_t.trans e6)) (fun a ha => s1.thr ha) eo fun u H2 ee rr => ?_
                have rz := (rr.rv ee s1).back f1 sr s1
                exact NPost.go q ((er.fr (f1.trans ee.fr)).set rz.t) (s1.ext ee) (f1.trans ee.fr)
            · cases e1
        · cases e2
    · cases hg
/-- xs += ys, a list at a place of the store -/
def gExt (i : Nat) (ge : GE) : GS := fun env st => match env[i]? with
  | some (some (.loc n)) => (match ge env st with
    | some (r, st1) => (match st1[n]?, val st1 r with
      | some (.lst xs), some (.lst ys) => if xs.length + ys.length ≤ sizeLine then some (.nx (env.set i (some (.loc n))) (st1.set n (.lst (xs ++ ys)))) else none
      | _, _ => none)
    | none => none)
  | _ => none
theorem ds_ext (hN : X.N.Nodup) (hi : X.N[i]? = some x) (hx : Loc X.env.scope x) (he : DE X e ge) (hf : X.fn x = true ∨ X.env.scope.names.lookup x = some .local := by first | exact .inl rfl | exact .inr rfl | assumption) :
    DS X (.AugAssign (.Name x pos') .Add e pos) (gExt i ge) :=
  ps_imp (ps_aug (ti := rExt2) hN hi hx he (fun pins s σ H a b v u Q I ra rb q => iop_ext pins s σ H a b v u Q I ra rb q) hf) fun Dn σ H h => by
    obtain ⟨M, L, env, st, o, er, sr, hg, q⟩ := h
    unfold gExt at hg
    split at hg
    · rename_i n e1
      obtain ⟨v, hv, a, ha, rfl⟩ := er.at_ i (.loc n) e1
      refine ⟨_, hv, ?_⟩
      split at hg
      · rename_i rb st1 e2
        split at hg
        · rename_i xs ys e3 e4
          split at hg
          · rename_i hz
            cases hg
            refine ⟨M, L, env, st, rb, st1, er, sr, e2, fun w H1 f1 s1 r1 => ?_⟩
            obtain ⟨vs, h1, hvs⟩ := s1.lst ha e3
            obtain ⟨b, ws, rfl, h2, hws⟩ := (show VC _ _ _ _ (.lst ys) from r1.t.cur s1 (val_t.trans e4))
            refine ⟨a, b, vs, ws, rfl, rfl, h1, h2, by rw [hvs.length, hws.length]; exact hz, ?_⟩
            have f2 : Fr L H (upd H1 a (.lst (vs ++ ws))) := f1.trans (fr_put ha)
            exact NPost.go q ((er.fr f2).set ⟨a, ha, rfl⟩) (s1.putL ha (hvs.append hws)) f2
          · cases hg
        · cases hg
      · cases hg
    · cases hg
end
end DL

set_option Elab.async false
set_option linter.all false
set_option maxRecDepth 100000
set_option maxHeartbeats 4000000
/-! xs[i] op= e -/
namespace DL
open PySem PySem.Spec PyProof.Rows L2
theorem pget_list {X : Cx} : PGet X (rIxL X.K) := by
  intro pins s σ H x y v u Q I rx ry h
  obtain ⟨p, xs, i, z, rfl, rfl, hq, he, q⟩ := h
  cases rx
  obtain ⟨t, rfl⟩ := ry
  obtain ⟨its, r, pl, hz⟩ := I.list hq
  obtain ⟨j, h1, h2, h3, h4, h5⟩ := atI_get he
  obtain ⟨w, ew, rw'⟩ := r.get h2
  have hl := r.length
  have hn := line63
  have fin : EP X pins σ Q w s := ⟨z, H, I, rw', q⟩
  by_cases h0 : 0 ≤ i
  · have hj : i.toNat = j := by
      rw [seqIndex_of h0 h5] at h1
      exact Option.some.inj h1
    exact wpAny_getItem_list pl.isList h0 (by omega) (by rw [hj]; simpa using ew) fin
  · have hj : (i + (its.toArray.size : Int)).toNat = j := by
      rw [seqIndex_neg (by omega) h4] at h1
      rw [List.size_toArray, ← hl]
      exact Option.some.inj h1
    exact wpAny_getItem_list_neg pl.isList (by omega) (by rw [List.size_toArray] <;> omega) (by omega) (by rw [hj]; simpa using ew) fin
def gPutAug (od : D → D → Option R) (go gi ge : GE) : GS := fun env st => match go env st with
  | some (.loc n, st1) => (match gi env st1 with
    | some (.d (.int i), st2) => (match st2[n]? with
      | some (.lst xs) => (match atI xs i with
        | some d => (match ge env st2 with
          | some (r, st3) => (match val st3 r with
            | some y => (match od d y with
              | some (.d z) => (match st3[n]? with
                | some (.lst ys) => (match ixN ys.length i with
                  | some j => some (.nx env (st3.set n (.lst (ys.set j z))))
                  | none => none)
                | _ => none)
              | _ => none)
            | none => none)
          | none => none)
        | none => none)
      | _ => none)
    | _ => none)
  | _ => none
section
variable {X : Cx} {o i e : Expr} {go gi ge : GE} {pos tpos : Pos} {op : Operator} {r : R2} {od : D → D → Option R}
theorem ds_augL (hp : OpR X (inplaceOp op) r) (hs : OpS X.K r od) (ho : DE X o go) (hi : DE X i gi) (he : DE X e ge)
    (ha : ∀ ov iv new, augStore i ov iv new = (do holding [new, ov, iv] (setItem ov iv new); release [new, ov, iv] []; pure .next) := by intros; rfl) : DS X (.AugAssign (.Subscript o i tpos) op e pos) (gPutAug od go gi ge) :=
  ps_imp (ps_augS (tip := r) ho hi pget_list he (fun pins s σ H a b v u Q I ra rb q => hp pins s σ H a b v u Q I ra rb q) set_list ha) fun Dn σ H h => by
    obtain ⟨M, L, env, st, oo, er, sr, hg, q⟩ := h
    unfold gPutAug at hg
    split at hg
    · rename_i n st1 e1
      split at hg
      · rename_i k st2 e2
        split at hg
        · rename_i xs e3
          split at hg
          · rename_i d e4
            split at hg
            · rename_i rr st3 e5
              split at hg
              · rename_i y e6
                split at hg
                · rename_i z e7
                  split at hg
                  · rename_i ys e8
                    split at hg
                    · rename_i j e9
                      cases hg
                      refine ⟨M, L, env, st, _, _, er, sr, e1, fun v1 H1 f1 s1 r1 => ?_⟩
                      obtain ⟨a, hn, rfl⟩ := r1
                      refine ⟨M, L, env, st1, _, _, er.fr f1, s1, e2, fun v2 H2 f2 s2 r2 => ?_⟩
                      cases (show VD _ _ _ v2 (.int k) from r2)
                      obtain ⟨vs, h0, hvs⟩ := s2.lst hn e3
                      obtain ⟨w, hw, hwd⟩ := atI_rel hvs e4
                      refine ⟨a, vs, k, w, rfl, rfl, .inl (.inl h0), hw, ?_⟩
                      refine ⟨M, L, env, st2, rr, st3, er.fr (f1.trans f2), s2, e5, fun v4 H4 f4 s4 r4 => ?_⟩
                      refine hs (M ++ L) H4 w v4 d y _ _ (hwd.mv f4.mvM).cur (r4.t.cur s4 (val_t.trans e6)) (fun b hb => s4.thr hb) e7 fun u H5 ee ru => ?_
                      have s5 := s4.ext ee
                      obtain ⟨ws, h5, hws⟩ := s5.lst hn e8
                      refine ⟨a, ws, k, j, rfl, rfl, h5, by rw [hws.length]; exact e9, ?_⟩
                      have f5 : Fr L H (upd H5 a (.lst (ws.set j u))) := (((f1.trans f2).trans f4).trans ee.fr).trans (fr_put hn)
                      exact NPost.go q (er.fr f5) (s5.putL hn (hws.set ru j)) f5
                    · cases hg
                  · cases hg
                · cases hg
              · cases hg
            · cases hg
          · cases hg
        · cases hg
      · cases hg
    · cases hg
end
end DL

set_option Elab.async false
set_option linter.all false
set_option maxRecDepth 100000
set_option maxHeartbeats 4000000
/-! bit_length, //= -/
namespace DL
open PySem PySem.Spec PyProof.Rows L2
def opBits : D → Option R
  | .int i => some (.d (.int (Builtin.Int.intBits i : Nat)))
  | _ => none
def rBits : V → Hp → VK → Prop := fun x H Q => ∃ i, x = .int i ∧ Q (.int (Builtin.Int.intBits i : Nat)) H
theorem us_bits {K : PySem.W.Frag} : UnS K rBits opBits := by
  intro L H x dx res Q hx hL h q
  unfold opBits at h
  split at h
  · cases h
    exact ⟨_, hx, q _ H (Ext.refl H) (.int _)⟩
  · cases h
theorem de_bits {X : Cx} {o : Expr} {go : GE} {apos pos : Pos} (ho : DE X o go) (hbase : attributeBase o "bit_length" X.env (eval o X.env) = eval o X.env := by rfl) (hline : (apos.endLine == pos.line) = true := by rfl) : DE X (.Call (.Attribute o "bit_length" apos) [] [] pos) (gUn opBits go) :=
  pe_imp (pe_bits ho hbase hline) (un_of us_bits)
theorem os_ifdiv {K : PySem.W.Frag} : OpS K (rI CDiv fun i j => .int (i / j)) iFdiv := by
  intro L H x y dx dy res Q hx hy hL h q
  unfold iFdiv at h
  split at h
  · split at h
    · rename_i hc
      cases h
      exact ⟨_, _, hx, hy, ⟨hc.1, by omega⟩, q _ H (Ext.refl H) (.int _)⟩
    · cases h
  · cases h
section
variable {X : Cx} {i : Nat} {x : Str} {e o j : Expr} {ge go gj : GE} {pos pos' tpos : Pos}
theorem ds_iadd (hN : X.N.Nodup) (he : DE X e ge) (hi : X.N[i]? = some x := by rfl) (hx : Loc X.env.scope x := by first | exact .inl rfl | exact .inr rfl) (hf : X.fn x = true ∨ X.env.scope.names.lookup x = some .local := by first | exact .inl rfl | exact .inr rfl) : DS X (.AugAssign (.Name x pos') .Add e pos) (gSet i (gOp iAdd (gVar i) ge)) := ds_augN iop_addD os_iadd hN hi hx he hf
theorem ds_isub (hN : X.N.Nodup) (he : DE X e ge) (hi : X.N[i]? = some x := by rfl) (hx : Loc X.env.scope x := by first | exact .inl rfl | exact .inr rfl) (hf : X.fn x = true ∨ X.env.scope.names.lookup x = some .local := by first | exact .inl rfl | exact .inr rfl) : DS X (.AugAssign (.Name x pos') .Sub e pos) (gSet i (gOp iSub (gVar i) ge)) := ds_augN iop_sub os_isub hN hi hx he hf
theorem ds_imul (hN : X.N.Nodup) (he : DE X e ge) (hi : X.N[i]? = some x := by rfl) (hx : Loc X.env.scope x := by first | exact .inl rfl | exact .inr rfl) (hf : X.fn x = true ∨ X.env.scope.names.lookup x = some .local := by first | exact .inl rfl | exact .inr rfl) : DS X (.AugAssign (.Name x pos') .Mult e pos) (gSet i (gOp iMul (gVar i) ge)) := ds_augN iop_mulD os_imul hN hi hx he hf
theorem ds_ifdiv (hN : X.N.Nodup) (he : DE X e ge) (hi : X.N[i]? = some x := by rfl) (hx : Loc X.env.scope x := by first | exact .inl rfl | exact .inr rfl) (hf : X.fn x = true ∨ X.env.scope.names.lookup x = some .local := by first | exact .inl rfl | exact .inr rfl) : DS X (.AugAssign (.Name x pos') .FloorDiv e pos) (gSet i (gOp iFdiv (gVar i) ge)) := ds_augN iop_fdiv os_ifdiv hN hi hx he hf
theorem ds_iext (hN : X.N.Nodup) (he : DE X e ge) (hi : X.N[i]? = some x := by rfl) (hx : Loc X.env.scope x := by first | exact .inl rfl | exact .inr rfl) (hf : X.fn x = true ∨ X.env.scope.names.lookup x = some .local := by first | exact .inl rfl | exact .inr rfl) : DS X (.AugAssign (.Name x pos') .Add e pos) (gExt i ge) := ds_ext hN hi hx he hf
theorem ds_iaddL (ho : DE X o go) (hj : DE X j gj) (he : DE X e ge) (ha : ∀ ov iv new, augStore j ov iv new = (do holding [new, ov, iv] (setItem ov iv new); release [new, ov, iv] []; pure .next) := by intros; rfl) : DS X (.AugAssign (.Subscript o j tpos) .Add e pos) (gPutAug iAdd go gj ge) := ds_augL iop_addD os_iadd ho hj he ha
end
end DL

set_option Elab.async false
set_option linter.all false
set_option maxRecDepth 100000
set_option maxHeartbeats 4000000
namespace DL
open PySem PySem.Spec PyProof.Rows L2
theorem vds_ints {K : PySem.W.Frag} {L : List Addr} {H : Hp} : ∀ ns : List Int, VDs K L H (ns.map V.int) (ns.map D.int)
  | [] => .nil
  | i :: ns => .cons (.int i) (vds_ints ns)
theorem end_sp {K : PySem.W.Frag} {F : F} {ns : List Int} {H : Hp} {a : Addr} {E : XK} (h : ∃ st, F [.d (.frl (ns.map D.int))] [] = some (.d (.bl true), st)) (hS : SqL K H a (ns.map V.int)) :
    spOf K 1 F [.ref a] H (fun v _ => v = .bl true) E := by
  obtain ⟨st, h⟩ := h
  refine ⟨[], [], [], [.d (.frl (ns.map D.int))], _, _, ⟨List.nodup_nil, rfl, fun n a c h => by simp at h, nofun⟩, .cons (.frl ?_ (vds_ints ns)) .nil, rfl, h, fun v H' _ _ r => ?_⟩
  · rcases hS with h | h
    · exact .inl ⟨nofun, h⟩
    · exact .inr h
  · cases (show VD K _ H' v (.bl true) from r); rfl
end DL

set_option Elab.async false
set_option linter.all false
set_option maxRecDepth 100000
set_option maxHeartbeats 4000000
/-! tables of the module: tuples of whole numbers by names -/
namespace DL
open PySem PySem.Spec PyProof.Rows L2
def TupK (K : PySem.W.Frag) (a : Addr) (xs : List V) : Prop :=
  ∃ (o : Obj) (its : Array Value) (n : Nat), K.lookup a = some o ∧ o.cls = .type "tuple" ∧ o.data = .seq its n ∧ its.size ≤ sizeLine ∧ Vals xs its.toList
theorem tupB_K {K : PySem.W.Frag} {x : Str} {vs : List He.Dv} (h : He.tupB K x vs = true) : TupK K (He.ga K x) (vs.map (He.Dv.v K)) := by
  rcases He.tupB_ok h (fun _ => none) with h | h
  · rcases h with h | ⟨_, h⟩ <;> cases h
  · exact h
theorem de_gtup {X : Cx} {x : Str} {xs : List V} {ds : List D} {pos : Pos} (hg : Gl X x) (hm : ∃ a, X.mg x = some (.ref a) ∧ TupK X.K a xs) (hv : ∀ L H, VDs X.K L H xs ds := by intro L H; repeat (first | exact .nil | refine .cons (.int _) ?_)) (hd : (x == ("__debug__" : Str)) = false := by decide) : DE X (.Name x pos) (gC (.frt ds)) := by
  obtain ⟨a, hm, ht⟩ := hm
  exact de_c (pe_glob (v := .ref a) hg hm rfl hd) fun L H => .frt (.inr ht) (hv L H)
/-- the head's hook, with tables -/
abbrev Tb := List (Str × List He.Dv)
def obsT (fa : List He.Fa) (fn : List He.DefD) (tb : Tb) (K : PySem.W.Frag) : He.AlD := (((fa.all fun f => f.ok K) && fn.all fun d => d.ok K) && tb.all fun p => He.tupB K p.1 p.2, fn.map fun d => He.fnW K d.at_)
def SaysT (fa : List He.Fa) (fn : List He.DefD) (tb : Tb) (K : PySem.W.Frag) : Prop := obsT fa fn tb K = He.valD fn
def obsTG (n : Nat) (fa : List He.Fa) (fn : List He.DefD) (tb : Tb) (g : Addr → Option Obj) : He.AlD := obsT fa fn tb (He.frG g (He.asD g n))
def hookT (n : Nat) (fa : List He.Fa) (fn : List He.DefD) (tb : Tb) : PySem.W.Hook where
  α := He.AlD
  obs := fun s => obsTG n fa fn tb s.heap.get?
  val := fun _ => He.valD fn
  says := fun _ h => ∃ K : PySem.W.Frag, K.In h ∧ SaysT fa fn tb K
  of := fun _ _ e => ⟨_, He.frG_in, e⟩
  keeps := fun _ _ _ ⟨K, hK, c⟩ k => ⟨K, PySem.W.Frag.In.keeps hK k, c⟩
theorem obsTG_eq {n : Nat} {fa : List He.Fa} {fn : List He.DefD} {tb : Tb} {g : Addr → Option Obj} {s : Shared} (h : ∀ a, g a = s.heap.get? a) : obsTG n fa fn tb g = (hookT n fa fn tb).obs s := by
  have e : g = s.heap.get? := funext h
  rw [e] <;> rfl
section
variable {fa : List He.Fa} {fn : List He.DefD} {tb : Tb} {K : PySem.W.Frag}
theorem SaysT.says (c : SaysT fa fn tb K) : He.SaysD fa fn K ∧ tb.all (fun p => He.tupB K p.1 p.2) = true := by
  have c1 : (((fa.all fun f => f.ok K) && fn.all fun d => d.ok K) && tb.all fun p => He.tupB K p.1 p.2) = true := congrArg (fun z : He.AlD => z.1) c
  have c2 : fn.map (fun d => He.fnW K d.at_) = fn.map He.DefD.val := congrArg (fun z : He.AlD => z.2) c
  rw [Bool.and_eq_true] at c1
  exact ⟨Prod.ext c1.1 c2, c1.2⟩
theorem SaysT.tab (c : SaysT fa fn tb K) (i : Nat) {x : Str} {vs : List He.Dv} (h : tb[i]? = some (x, vs) := by rfl) : TupK K (He.ga K x) (vs.map (He.Dv.v K)) :=
  tupB_K (List.all_eq_true.mp c.says.2 _ (List.mem_of_getElem? h))
end
end DL

set_option Elab.async false
set_option linter.all false
set_option maxRecDepth 100000
set_option maxHeartbeats 4000000
/-! what must hold ahead, so that it holds behind -/
namespace DL
open PySem PySem.Spec PyProof.Rows L2
def WO {α : Type} (o : Option α) (Q : α → Prop) : Prop := ∃ x, o = some x ∧ Q x
def WE (o : Option (R × Sto)) (Q : R → Sto → Prop) : Prop := ∃ r s, o = some (r, s) ∧ Q r s
def WT (o : Option (Bool × Sto)) (Q : Bool → Sto → Prop) : Prop := ∃ r s, o = some (r, s) ∧ Q r s
def WA (o : Option (List R × Sto)) (Q : List R → Sto → Prop) : Prop := ∃ r s, o = some (r, s) ∧ Q r s
def WI (o : Option ((List D × Option Nat) × Sto)) (Q : List D → Option Nat → Sto → Prop) : Prop := ∃ xs lk s, o = some ((xs, lk), s) ∧ Q xs lk s
def WS (o : Option Out) (Q : Out → Prop) : Prop := ∃ x, o = some x ∧ Q x
def WV (st : Sto) (r : R) (Q : D → Prop) : Prop := ∃ x, val st r = some x ∧ Q x
def WB (r : R) (Q : Bool → Prop) : Prop := ∃ b, r = .d (.bl b) ∧ Q b
def WF (r : R) (Q : D → Prop) : Prop := ∃ x, r = .fr x ∧ Q x
def WG (o : Option Env) (Q : Env → Prop) : Prop := ∃ x, o = some x ∧ Q x
def WVT (r : R) (Q : D → Prop) : Prop := ∃ x, valT r = some x ∧ Q x
section
variable {α β : Type} {Q : α → Prop} {x : α} {o : Option α}
theorem WO_some : WO (some x) Q ↔ Q x := ⟨fun ⟨_, e, q⟩ => by cases e; exact q, fun q => ⟨x, rfl, q⟩⟩
theorem WO_none : WO none Q ↔ False := ⟨(fun ⟨_, e, _⟩ => nomatch e), False.elim⟩
theorem WO_ite {c : Prop} [Decidable c] : WO (if c then o else none) Q ↔ c ∧ WO o Q := by
  by_cases h : c
  · rw [if_pos h]; exact ⟨fun q => ⟨h, q⟩, fun q => q.2⟩
  · rw [if_neg h, WO_none]; exact ⟨False.elim, fun q => h q.1⟩
theorem WO_map {f : β → α} {o : Option β} : WO (o.map f) Q ↔ WO o fun x => Q (f x) := by
  cases o with
  | none => exact WO_none.trans WO_none.symm
  | some x => rw [WO_some]; exact WO_some
end
section
variable {Q : R → Sto → Prop} {QA : List R → Sto → Prop} {QT : Bool → Sto → Prop} {QI : List D → Option Nat → Sto → Prop} {QS : Out → Prop} {QD : D → Prop} {r : R} {st s : Sto} {env : Env} {rs : List R} {d : D} {b : Bool} {n i j l : Nat} {ga gb gc ge go gk gd : GE} {gs : GA} {t u : GT} {a c : GS} {op op' : D → D → Option R} {f : F} {ds : List D} {gi : GI} {tg : GG}
theorem WE_some : WE (some (r, s)) Q ↔ Q r s := ⟨fun ⟨_, _, e, q⟩ => by cases e; exact q, fun q => ⟨r, s, rfl, q⟩⟩
theorem WE_none : WE none Q ↔ False := ⟨(fun ⟨_, _, e, _⟩ => nomatch e), False.elim⟩
theorem WT_some : WT (some (b, s)) QT ↔ QT b s := ⟨fun ⟨_, _, e, q⟩ => by cases e; exact q, fun q => ⟨b, s, rfl, q⟩⟩
theorem WT_none : WT none QT ↔ False := ⟨(fun ⟨_, _, e, _⟩ => nomatch e), False.elim⟩
theorem WA_some : WA (some (rs, s)) QA ↔ QA rs s := ⟨fun ⟨_, _, e, q⟩ => by cases e; exact q, fun q => ⟨rs, s, rfl, q⟩⟩
theorem WA_none : WA none QA ↔ False := ⟨(fun ⟨_, _, e, _⟩ => nomatch e), False.elim⟩
theorem WI_some {xs : List D} {lk : Option Nat} : WI (some ((xs, lk), s)) QI ↔ QI xs lk s := ⟨fun ⟨_, _, _, e, q⟩ => by cases e; exact q, fun q => ⟨xs, lk, s, rfl, q⟩⟩
theorem WI_none : WI none QI ↔ False := ⟨(fun ⟨_, _, _, e, _⟩ => nomatch e), False.elim⟩
theorem WS_some {o : Out} : WS (some o) QS ↔ QS o := WO_some
theorem WS_none : WS none QS ↔ False := WO_none
theorem WV_d : WV st (.d d) QD ↔ QD d := WO_some
theorem WV_fr : WV st (.fr d) QD ↔ QD d := WO_some
theorem WV_loc : WV st (.loc n) QD ↔ WO (cellV st[n]?) QD := Iff.rfl
theorem WVT_d : WVT (.d d) QD ↔ QD d := WO_some
theorem WVT_fr : WVT (.fr d) QD ↔ QD d := WO_some
theorem WB_bl {Z : Bool → Prop} : WB (.d (.bl b)) Z ↔ Z b := ⟨fun ⟨_, e, q⟩ => by cases e; exact q, fun q => ⟨b, rfl, q⟩⟩
theorem WF_fr : WF (.fr d) QD ↔ QD d := ⟨fun ⟨_, e, q⟩ => by cases e; exact q, fun q => ⟨d, rfl, q⟩⟩
theorem WG_some {Z : Env → Prop} : WG (some env) Z ↔ Z env := WO_some
theorem w_var : WE (gVar i env st) Q ↔ WO env[i]? fun o => WO o fun r => Q r st := by
  unfold gVar
  cases env[i]? with
  | none => exact WE_none.trans WO_none.symm
  | some o =>
    rw [WO_some]
    cases o with
    | none => exact WE_none.trans WO_none.symm
    | some r => rw [WO_some]; exact WE_some
theorem w_C : WE (gC d env st) Q ↔ Q (.d d) st := WE_some
theorem w_op : WE (gOp op ga gb env st) Q ↔ WE (ga env st) fun a s1 => WE (gb env s1) fun b s2 => WV s2 a fun x => WV s2 b fun y => WO (op x y) fun r => Q r s2 := by
  unfold gOp
  cases h1 : ga env st with
  | none => simp only [WE_none]
  | some p =>
    obtain ⟨a, s1⟩ := p
    simp only [WE_some]
    cases h2 : gb env s1 with
    | none => simp only [WE_none]
    | some p =>
      obtain ⟨b, s2⟩ := p
      simp only [WE_some]
      unfold WV
      cases h3 : val s2 a with
      | none => simp [WE_none]
      | some x =>
        cases h4 : val s2 b with
        | none => simp [WE_none]
        | some y =>
          cases h5 : op x y with
          | none => simp [h5, WE_none, WO_none]
          | some z => simp [h5, WE_some, WO_some]
theorem w_un {op : D → Option R} : WE (gUn op ga env st) Q ↔ WE (ga env st) fun a s1 => WV s1 a fun x => WO (op x) fun r => Q r s1 := by
  unfold gUn
  cases h1 : ga env st with
  | none => simp only [WE_none]
  | some p =>
    obtain ⟨a, s1⟩ := p
    simp only [WE_some]
    unfold WV
    cases h3 : val s1 a with
    | none => simp [WE_none]
    | some x =>
      cases h5 : op x with
      | none => simp [h5, WE_none, WO_none]
      | some z => simp [h5, WE_some, WO_some]
theorem w_test : WT (gTest ge env st) QT ↔ WE (ge env st) fun r s => WB r fun b => QT b s := by
  unfold gTest
  split
  · rename_i b s1 e
    rw [e, WT_some, WE_some, WB_bl]
  · rename_i h
    rw [WT_none]
    refine ⟨False.elim, fun ⟨r, s, e, b, hb, _⟩ => ?_⟩
    subst hb
    exact h _ _ e
theorem w_chain : WE (gChain op op' ga gb gc env st) Q ↔ WE (ga env st) fun a s1 => WE (gb env s1) fun b s2 => WV s2 a fun x => WV s2 b fun y => WO (op x y) fun r => WB r fun p =>
    (p = true → WE (gc env s2) fun c s3 => WV s3 b fun y' => WV s3 c fun z => WO (op' y' z) fun r => Q r s3) ∧ (p = false → Q (.d (.bl false)) s2) := by
  unfold gChain
  cases h1 : ga env st with
  | none => simp only [WE_none]
  | some p =>
    obtain ⟨a, s1⟩ := p
    simp only [WE_some]
    cases h2 : gb env s1 with
    | none => simp only [WE_none]
    | some p =>
      obtain ⟨b, s2⟩ := p
      simp only [WE_some]
      unfold WV
      cases h3 : val s2 a with
      | none => simp [WE_none]
      | some x =>
        cases h4 : val s2 b with
        | none => simp [WE_none]
        | some y =>
          simp only [Option.some.injEq, exists_eq_left']
          split
          · rename_i e
            rw [e, WO_some, WB_bl]
            simp only [true_implies, Bool.true_eq_false, false_implies, and_true]
            cases h6 : gc env s2 with
            | none => simp only [WE_none]
            | some p =>
              obtain ⟨c, s3⟩ := p
              simp only [WE_some]
              cases h7 : val s3 b with
              | none => simp [WE_none]
              | some y' =>
                cases h8 : val s3 c with
                | none => simp [WE_none]
                | some z =>
                  cases h9 : op' y' z with
                  | none => simp [h9, WE_none, WO_none]
                  | some w => simp [h9, WE_some, WO_some]
          · rename_i e
            rw [e, WO_some, WB_bl]
            simp [WE_some]
          · rename_i k1 k2
            rw [WE_none]
            refine ⟨False.elim, fun ⟨r, e, p, hp, _⟩ => ?_⟩
            subst hp
            cases p
            · exact k2 e
            · exact k1 e
theorem w_and : WT (gAnd t u env st) QT ↔ WT (t env st) fun b s => (b = true → WT (u env s) QT) ∧ (b = false → QT false s) := by
  unfold gAnd
  cases h1 : t env st with
  | none => simp only [WT_none]
  | some p => obtain ⟨b, s1⟩ := p; cases b <;> simp [WT_some]
theorem w_or : WT (gOr t u env st) QT ↔ WT (t env st) fun b s => (b = true → QT true s) ∧ (b = false → WT (u env s) QT) := by
  unfold gOr
  cases h1 : t env st with
  | none => simp only [WT_none]
  | some p => obtain ⟨b, s1⟩ := p; cases b <;> simp [WT_some]
theorem w_not : WT (gNot t env st) QT ↔ WT (t env st) fun b s => QT (!b) s := by
  unfold gNot
  cases h1 : t env st with
  | none => simp only [WT_none]
  | some p => obtain ⟨b, s1⟩ := p; simp only [WT_some]
theorem w_VT : WE (gVT t env st) Q ↔ WT (t env st) fun b s => Q (.d (.bl b)) s := by
  unfold gVT
  cases h1 : t env st with
  | none => simp only [WT_none, WE_none]
  | some p => obtain ⟨b, s1⟩ := p; simp only [WT_some, WE_some]
theorem w_ifE : WE (gIfE t ga gb env st) Q ↔ WT (t env st) fun b s => (b = true → WE (ga env s) Q) ∧ (b = false → WE (gb env s) Q) := by
  unfold gIfE
  cases h1 : t env st with
  | none => simp only [WT_none, WE_none]
  | some p => obtain ⟨b, s1⟩ := p; cases b <;> simp [WT_some]
theorem w_A0 : WA (gA0 env st) QA ↔ QA [] st := WA_some
theorem w_A1 : WA (gA1 ge gs env st) QA ↔ WE (ge env st) fun r s1 => WA (gs env s1) fun rs s2 => QA (r.t :: rs) s2 := by
  unfold gA1
  cases h1 : ge env st with
  | none => simp only [WA_none, WE_none]
  | some p =>
    obtain ⟨b, s1⟩ := p
    simp only [WE_some]
    cases h2 : gs env s1 with
    | none => simp only [WA_none]
    | some p => obtain ⟨rs, s2⟩ := p; simp only [WA_some]
theorem w_call : WE (gCall f gs env st) Q ↔ WA (gs env st) fun rs s => WE (f rs s) Q := by
  unfold gCall
  cases h1 : gs env st with
  | none => simp only [WA_none, WE_none]
  | some p => obtain ⟨b, s1⟩ := p; simp only [WA_some]
theorem w_blt {op : List D → Option R} : WE (gBlt op gs env st) Q ↔ WA (gs env st) fun rs s => WO (curs s rs) fun ds => WO (op ds) fun r => Q r s := by
  unfold gBlt
  cases h1 : gs env st with
  | none => simp only [WA_none, WE_none]
  | some p =>
    obtain ⟨b, s1⟩ := p
    simp only [WA_some]
    cases h2 : curs s1 b with
    | none => simp only [WO_none, WE_none]
    | some ds =>
      simp only [WO_some]
      cases h3 : op ds with
      | none => simp [WO_none, WE_none]
      | some r => simp [WO_some, WE_some]
theorem w_curs0 {Z : List D → Prop} : WO (curs st []) Z ↔ Z [] := WO_some
theorem w_curs1 {Z : List D → Prop} : WO (curs st (r :: rs)) Z ↔ WV st r fun x => WO (curs st rs) fun xs => Z (x :: xs) := by
  unfold WV
  rw [curs]
  cases h : val st r with
  | none => simp [WO_none]
  | some x =>
    cases h2 : curs st rs with
    | none => simp [WO_none]
    | some xs => simp [WO_some]
theorem w_vals0 {Z : List D → Prop} : WO (vals st []) Z ↔ Z [] := WO_some
theorem w_vals1 {Z : List D → Prop} : WO (vals st (r :: rs)) Z ↔ WVT r fun x => WO (vals st rs) fun xs => Z (x :: xs) := by
  cases r with
  | d x =>
    rw [WVT_d, vals]
    cases h2 : vals st rs with
    | none => simp [WO_none]
    | some xs => simp [WO_some]
  | fr x =>
    rw [WVT_fr, vals]
    cases h2 : vals st rs with
    | none => simp [WO_none]
    | some xs => simp [WO_some]
  | loc n => rw [vals, WO_none]; exact ⟨False.elim, fun ⟨x, e, _⟩ => nomatch e⟩
theorem w_tup : WE (gTup gs env st) Q ↔ WA (gs env st) fun rs s => WO (vals s rs) fun ds => fits ds.length ∧ Q (.d (.tup ds)) s := by
  unfold gTup
  cases h1 : gs env st with
  | none => simp only [WA_none, WE_none]
  | some p =>
    obtain ⟨b, s1⟩ := p
    simp only [WA_some]
    cases h2 : vals s1 b with
    | none => simp only [WO_none, WE_none]
    | some ds =>
      simp only [WO_some]
      split
      · rename_i h; rw [WE_some]; exact ⟨fun q => ⟨h, q⟩, fun q => q.2⟩
      · rename_i h; rw [WE_none]; exact ⟨False.elim, fun q => h q.1⟩
theorem w_lst : WE (gLst gs env st) Q ↔ WA (gs env st) fun rs s => WO (vals s rs) fun ds => fits ds.length ∧ Q (.fr (.lst ds)) s := by
  unfold gLst
  cases h1 : gs env st with
  | none => simp only [WA_none, WE_none]
  | some p =>
    obtain ⟨b, s1⟩ := p
    simp only [WA_some]
    cases h2 : vals s1 b with
    | none => simp only [WO_none, WE_none]
    | some ds =>
      simp only [WO_some]
      split
      · rename_i h; rw [WE_some]; exact ⟨fun q => ⟨h, q⟩, fun q => q.2⟩
      · rename_i h; rw [WE_none]; exact ⟨False.elim, fun q => h q.1⟩
/-- behind a statement -/
def KS (b : GS) (Q : Out → Prop) : Out → Prop := fun o => match o with
  | .nx e s => WS (b e s) Q
  | o => Q o
theorem KS_nx {b : GS} : KS b QS (.nx env st) ↔ WS (b env st) QS := Iff.rfl
theorem KS_rt {b : GS} : KS b QS (.rt r st) ↔ QS (.rt r st) := Iff.rfl
theorem KS_bk {b : GS} : KS b QS (.bk env st) ↔ QS (.bk env st) := Iff.rfl
theorem KS_ct {b : GS} : KS b QS (.ct env st) ↔ QS (.ct env st) := Iff.rfl
theorem w_seq : WS (gSeq a c env st) QS ↔ WS (a env st) (KS c QS) := by
  unfold gSeq
  cases h : a env st with
  | none => simp only [WS_none]
  | some o => cases o <;> simp only [WS_some, KS_nx, KS_rt, KS_bk, KS_ct]
theorem w_next : WS (gNext env st) QS ↔ QS (.nx env st) := WO_some
theorem w_set : WS (gSet i ge env st) QS ↔ WE (ge env st) fun r s => QS (.nx (env.set i (some r.t)) s) := by
  unfold gSet
  cases h : ge env st with
  | none => simp only [WS_none, WE_none]
  | some p => obtain ⟨r, s⟩ := p; simp only [WS_some, WE_some]
theorem w_setM : WS (gSetM i ge env st) QS ↔ WE (ge env st) fun r s => WF r fun x => QS (.nx (env.set i (some (.loc s.length))) (s ++ [x])) := by
  unfold gSetM
  split
  · rename_i x s e; rw [e, WS_some, WE_some, WF_fr]
  · rename_i h
    rw [WS_none]
    refine ⟨False.elim, fun ⟨r, s, e, x, hx, _⟩ => ?_⟩
    subst hx
    exact h _ _ e
theorem w_drop : WS (gDrop ge env st) QS ↔ WE (ge env st) fun r s => QS (.nx env s) := by
  unfold gDrop
  cases h : ge env st with
  | none => simp only [WS_none, WE_none]
  | some p => obtain ⟨r, s⟩ := p; simp only [WS_some, WE_some]
theorem w_ret : WS (gRet ge env st) QS ↔ WE (ge env st) fun r s => QS (.rt r s) := by
  unfold gRet
  cases h : ge env st with
  | none => simp only [WS_none, WE_none]
  | some p => obtain ⟨r, s⟩ := p; simp only [WS_some, WE_some]
theorem w_retN : WS (gRetN env st) QS ↔ QS (.rt (.d .non) st) := WO_some
theorem w_brk : WS (gBrk env st) QS ↔ QS (.bk env st) := WO_some
theorem w_cnt : WS (gCnt env st) QS ↔ QS (.ct env st) := WO_some
theorem w_if : WS (gIf t a c env st) QS ↔ WT (t env st) fun b s => (b = true → WS (a env s) QS) ∧ (b = false → WS (c env s) QS) := by
  unfold gIf
  cases h1 : t env st with
  | none => simp only [WT_none, WS_none]
  | some p => obtain ⟨b, s1⟩ := p; cases b <;> simp [WT_some]
theorem w_asg : WS (gAsg ge tg env st) QS ↔ WE (ge env st) fun r s => WVT r fun d => WG (tg d env) fun e => QS (.nx e s) := by
  unfold gAsg
  cases h : ge env st with
  | none => simp only [WS_none, WE_none]
  | some p =>
    obtain ⟨r, s⟩ := p
    simp only [WE_some]
    cases r with
    | d x =>
      rw [WVT_d]; simp only [val]
      cases h2 : tg x env with
      | none => simp [WS_none, WG]
      | some e => simp [WS_some, WG]
    | fr x =>
      rw [WVT_fr]; simp only [val]
      cases h2 : tg x env with
      | none => simp [WS_none, WG]
      | some e => simp [WS_some, WG]
    | loc n =>
      dsimp only
      split
      · rw [WS_none]; exact ⟨False.elim, fun ⟨x, e, _⟩ => nomatch e⟩
      · rw [WS_none]; exact ⟨False.elim, fun ⟨x, e, _⟩ => nomatch e⟩
theorem w_par {gs : GA} : WS (gPar i j gs env st) QS ↔ WA (gs env st) fun rs s => ∃ r1 r2, rs = [r1, r2] ∧ QS (.nx ((env.set i (some r1)).set j (some r2)) s) := by
  unfold gPar
  split
  · rename_i r1 r2 s e; rw [e, WS_some, WA_some]; exact ⟨fun q => ⟨_, _, rfl, q⟩, fun ⟨_, _, e, q⟩ => by cases e; exact q⟩
  · rename_i h
    rw [WS_none]
    refine ⟨False.elim, fun ⟨rs, s, e, r1, r2, hx, _⟩ => ?_⟩
    subst hx
    exact h _ _ _ e
theorem w_par3 {gs : GA} : WS (gPar3 i j l gs env st) QS ↔ WA (gs env st) fun rs s => ∃ r1 r2 r3, rs = [r1, r2, r3] ∧ QS (.nx (((env.set i (some r1)).set j (some r2)).set l (some r3)) s) := by
  unfold gPar3
  split
  · rename_i r1 r2 r3 s e; rw [e, WS_some, WA_some]; exact ⟨fun q => ⟨_, _, _, rfl, q⟩, fun ⟨_, _, _, e, q⟩ => by cases e; exact q⟩
  · rename_i h
    rw [WS_none]
    refine ⟨False.elim, fun ⟨rs, s, e, r1, r2, r3, hx, _⟩ => ?_⟩
    subst hx
    exact h _ _ _ _ e
/-! ### targets -/
theorem w_N {Z : Env → Prop} : WG (gN i d env) Z ↔ Z (env.set i (some (.d d))) := WO_some
theorem w_N0 {Z : Env → Prop} : WG (gN0 [] env) Z ↔ Z env := WO_some
theorem w_N1 {Z : Env → Prop} {g : GG} {gs : List D → Env → Option Env} : WG (gN1 g gs (d :: ds) env) Z ↔ WG (g d env) fun e => WG (gs ds e) Z := by
  unfold gN1 WG
  cases h : g d env with
  | none => simp [h]
  | some e => simp [h]
theorem w_NT {Z : Env → Prop} {gs : List D → Env → Option Env} : WG (gNT n gs (.tup ds) env) Z ↔ ds.length = n ∧ WG (gs ds env) Z := by
  unfold gNT
  dsimp only
  split
  · rename_i h; exact ⟨fun q => ⟨h, q⟩, fun q => q.2⟩
  · rename_i h
    constructor
    · rintro ⟨_, e, _⟩; cases e
    · intro q; exact (h q.1).elim
/-! ### a def -/
def KF (n : Nat) (Q : R → Sto → Prop) : Out → Prop := fun o => match o with
  | .nx _ s => Q (.d .non) (s.take n)
  | .rt r s => WE (fin n s r) Q
  | _ => False
theorem KF_nx : KF n Q (.nx env s) ↔ Q (.d .non) (s.take n) := Iff.rfl
theorem KF_rt : KF n Q (.rt r s) ↔ WE (fin n s r) Q := Iff.rfl
theorem w_fun {g : GS} : WE (gFun n g rs st) Q ↔ WS (g (rs.map some ++ List.replicate (n - rs.length) none) st) (KF st.length Q) := by
  unfold gFun
  cases h : g (rs.map some ++ List.replicate (n - rs.length) none) st with
  | none => simp only [WE_none, WS_none]
  | some o => cases o <;> simp only [WE_some, WE_none, WS_some, KF]
theorem fin_d : WE (fin n s (.d d)) Q ↔ Q (.d d) (s.take n) := WE_some
theorem fin_fr : WE (fin n s (.fr d)) Q ↔ Q (.fr d) (s.take n) := WE_some
theorem fin_old (h : i < n) : WE (fin n s (.loc i)) Q ↔ Q (.loc i) (s.take n) := by unfold fin; dsimp only; rw [if_pos h, WE_some]
theorem fin_new (h : ¬ i < n) : WE (fin n s (.loc i)) Q ↔ WO (cellV s[i]?) fun c => Q (.fr c) (s.take n) := by
  unfold fin
  dsimp only
  rw [if_neg h]
  cases cellV s[i]? with
  | none => exact WE_none.trans WO_none.symm
  | some c => rw [WO_some]; exact WE_some
theorem w_fin : WE (fin n s (.loc i)) Q ↔ (i < n → Q (.loc i) (s.take n)) ∧ (¬ i < n → WO (cellV s[i]?) fun c => Q (.fr c) (s.take n)) := by
  by_cases h : i < n
  · rw [fin_old h]; simp [h]
  · rw [fin_new h]; simp [h]
end
end DL

set_option Elab.async false
set_option linter.all false
set_option maxRecDepth 100000
set_option maxHeartbeats 4000000
/-! rows, loops, methods -/
namespace DL
open PySem PySem.Spec PyProof.Rows L2
section
variable {Q : R → Sto → Prop} {QA : List R → Sto → Prop} {QT : Bool → Sto → Prop} {QI : List D → Option Nat → Sto → Prop} {QS : Out → Prop} {QD : D → Prop} {r : R} {st s : Sto} {env : Env} {rs : List R} {d : D} {b : Bool} {n i j l : Nat} {ga gb gc ge go gk gd : GE} {gs : GA} {t u : GT} {a c : GS} {op op' : D → D → Option R} {f : F} {ds : List D} {gi : GI} {tg : GG}
/-! ### rows that are gone through -/
/-- what is gone through at this moment -/
def WIt (st : Sto) (r : R) (Q : List D → Option Nat → Prop) : Prop := match r with
  | .d (.lst xs) => Q xs none
  | .fr (.lst xs) => Q xs none
  | .d (.tup xs) => Q xs none
  | .d (.frl xs) => Q xs none
  | .d (.str x) => Q (signs x) none
  | .loc n => (match st[n]? with
    | some (.lst xs) => Q xs (some n)
    | _ => False)
  | _ => False
theorem wi_iter (h : WE (ge env st) fun r s => WIt s r fun xs lk => QI xs lk s) : WI (gIter ge env st) QI := by
  obtain ⟨r, s, e, h⟩ := h
  unfold gIter
  rw [e]
  unfold WIt at h
  split at h
  · exact WI_some.mpr h
  · exact WI_some.mpr h
  · exact WI_some.mpr h
  · exact WI_some.mpr h
  · exact WI_some.mpr h
  · rename_i m
    dsimp only
    split at h
    · rename_i xs e2; first | (rw [e2]; exact WI_some.mpr h) | exact WI_some.mpr h
    · exact h.elim
  · exact h.elim
theorem wi_rng1 (h : WE (ga env st) fun r s => ∃ j, r = .d (.int j) ∧ sm62 j ∧ QI (rgD 0 j.toNat) none s) : WI (gRng1 ga env st) QI := by
  obtain ⟨r, s, e, j, rfl, h1, h2⟩ := h
  unfold gRng1
  rw [e]
  dsimp only
  rw [if_pos h1]
  exact WI_some.mpr h2
theorem wi_rng2 (h : WE (ga env st) fun r s => ∃ i, r = .d (.int i) ∧ WE (gb env s) fun r s => ∃ j, r = .d (.int j) ∧ sm62 i ∧ sm62 j ∧ QI (rgD i (j - i).toNat) none s) : WI (gRng2 ga gb env st) QI := by
  obtain ⟨r, s, e, i, rfl, r2, s2, e2, j, rfl, h1, h2, h3⟩ := h
  unfold gRng2
  rw [e]
  dsimp only
  rw [e2]
  dsimp only
  rw [if_pos ⟨h1, h2⟩]
  exact WI_some.mpr h3
theorem wi_rngA (h : WE (ga env st) fun r s => ∃ i, r = .d (.int i) ∧ WE (gb env s) fun r s => ∃ j, r = .d (.int j) ∧ QI (rgD i (j - i).toNat) none s) : WI (gRngA ga gb env st) QI := by
  obtain ⟨r, s, e, i, rfl, r2, s2, e2, j, rfl, h3⟩ := h
  unfold gRngA
  rw [e]
  dsimp only
  rw [e2]
  exact WI_some.mpr h3
/-! ### for -/
/-- behind a turn -/
def KL (n : Nat) (I : Env → Sto → Prop) (Q : Out → Prop) : Out → Prop := fun o => match o with
  | .nx e s => I (clr n s e) (s.take n)
  | .ct e s => I (clr n s e) (s.take n)
  | .bk e s => Q (.nx (clr n s e) (s.take n))
  | .rt r s => Q (.rt r s)
theorem KL_nx {I : Env → Sto → Prop} : KL n I QS (.nx env s) ↔ I (clr n s env) (s.take n) := Iff.rfl
theorem KL_ct {I : Env → Sto → Prop} : KL n I QS (.ct env s) ↔ I (clr n s env) (s.take n) := Iff.rfl
theorem KL_bk {I : Env → Sto → Prop} : KL n I QS (.bk env s) ↔ QS (.nx (clr n s env) (s.take n)) := Iff.rfl
theorem KL_rt {I : Env → Sto → Prop} : KL n I QS (.rt r s) ↔ QS (.rt r s) := Iff.rfl
theorem forGo_w {τ : Type} (enc : τ → D) (Inv : List τ → Env → Sto → Prop) {lk : Option Nat} {src : List D} {body : GS} (all : List τ)
    (hlk : ∀ done env s, Inv done env s → lkOk src s lk)
    (hstep : ∀ done x rest env s, all = done ++ x :: rest → Inv done env s → WG (tg (enc x) env) fun e => WS (body e s) (KL n (Inv (done ++ [x])) QS))
    (hend : ∀ env s, Inv all env s → QS (.nx env s)) : ∀ (rest done : List τ) env s, all = done ++ rest → Inv done env s → WS (forGo lk src tg body n (rest.map enc) env s) QS := by
  intro rest
  induction rest with
  | nil =>
    intro done env s e h
    rw [List.append_nil] at e
    subst e
    rw [List.map_nil]
    unfold forGo
    rw [if_pos (hlk _ _ _ h)]
    exact WS_some.mpr (hend _ _ h)
  | cons x rest ih =>
    intro done env s e h
    rw [List.map_cons]
    unfold forGo
    rw [if_pos (hlk _ _ _ h)]
    obtain ⟨e1, h1, o, h2, h3⟩ := hstep done x rest env s e h
    rw [h1]
    dsimp only
    rw [h2]
    cases o with
    | nx e2 s2 => exact ih (done ++ [x]) _ _ (by rw [e, List.append_assoc]; rfl) h3
    | ct e2 s2 => exact ih (done ++ [x]) _ _ (by rw [e, List.append_assoc]; rfl) h3
    | bk e2 s2 => exact WS_some.mpr h3
    | rt r s2 => exact WS_some.mpr h3
/-- for x in xs, xs the row ts -/
theorem w_for {τ : Type} {body : GS} (enc : τ → D) (ts : List τ) (Inv : List τ → Env → Sto → Prop)
    (hi : WI (gi env st) fun xs lk s => xs = ts.map enc ∧ s.length = n ∧ Inv [] env s ∧ ∀ done env s, Inv done env s → lkOk xs s lk)
    (hstep : ∀ done x rest env s, ts = done ++ x :: rest → Inv done env s → WG (tg (enc x) env) fun e => WS (body e s) (KL n (Inv (done ++ [x])) QS))
    (hend : ∀ env s, Inv ts env s → QS (.nx env s)) : WS (gFor gi tg body env st) QS := by
  obtain ⟨xs, lk, s, e, rfl, rfl, h0, hlk⟩ := hi
  unfold gFor
  rw [e]
  exact forGo_w enc Inv ts hlk hstep hend ts [] env s rfl h0
theorem w_for0 {body : GS} (h : WI (gi env st) fun xs lk s => WS (forGo lk xs tg body s.length xs env s) QS) : WS (gFor gi tg body env st) QS := by
  obtain ⟨xs, lk, s, e, h⟩ := h
  unfold gFor
  rw [e]
  exact h
theorem w_go {τ : Type} {body : GS} {lk : Option Nat} {xs : List D} (enc : τ → D) (ts : List τ) (Inv : List τ → Env → Sto → Prop) (e : xs = ts.map enc) (h0 : Inv [] env s) (hlk : ∀ done env s, Inv done env s → lkOk xs s lk)
    (hstep : ∀ done x rest env s, ts = done ++ x :: rest → Inv done env s → WG (tg (enc x) env) fun e => WS (body e s) (KL n (Inv (done ++ [x])) QS))
    (hend : ∀ env s, Inv ts env s → QS (.nx env s)) : WS (forGo lk xs tg body n xs env s) QS := by
  have := forGo_w (tg := tg) (n := n) (body := body) (lk := lk) (src := xs) (QS := QS) enc Inv ts hlk hstep hend ts [] env s rfl h0
  rw [← e] at this
  exact this
/-! ### comprehensions -/
theorem compGo_w {τ : Type} (enc : τ → D) (Inv : List τ → List D → Sto → Prop) {lk : Option Nat} {src : List D} {t : GT} {e : GE} (all : List τ) (QC : List D → Sto → Prop)
    (hlk : ∀ done out s, Inv done out s → lkOk src s lk)
    (hstep : ∀ done x rest out s, all = done ++ x :: rest → Inv done out s → WG (tg (enc x) env) fun e1 => WT (t e1 s) fun b s1 => (b = true → WE (e e1 s1) fun r s2 => WVT r fun y => Inv (done ++ [x]) (out ++ [y]) s2) ∧ (b = false → Inv (done ++ [x]) out s1))
    (hend : ∀ out s, Inv all out s → QC out s) : ∀ (rest done : List τ) out s, all = done ++ rest → Inv done out s → ∃ ys s', compGo lk src tg t e env (rest.map enc) s = some (ys, s') ∧ QC (out ++ ys) s' := by
  intro rest
  induction rest with
  | nil =>
    intro done out s e h
    rw [List.append_nil] at e
    subst e
    rw [List.map_nil]
    unfold compGo
    rw [if_pos (hlk _ _ _ h)]
    exact ⟨[], s, rfl, by rw [List.append_nil]; exact hend _ _ h⟩
  | cons x rest ih =>
    intro done out s e h
    rw [List.map_cons]
    unfold compGo
    rw [if_pos (hlk _ _ _ h)]
    obtain ⟨e1, h1, b, s1, h2, h3, h4⟩ := hstep done x rest out s e h
    rw [h1]
    dsimp only
    rw [h2]
    cases b with
    | false =>
      dsimp only
      exact ih (done ++ [x]) out s1 (by rw [e, List.append_assoc]; rfl) (h4 rfl)
    | true =>
      obtain ⟨r, s2, h5, y, h6, h7⟩ := h3 rfl
      obtain ⟨ys, s', h8, h9⟩ := ih (done ++ [x]) (out ++ [y]) s2 (by rw [e, List.append_assoc]; rfl) h7
      dsimp only
      rw [h5]
      dsimp only
      rw [h6]
      dsimp only
      rw [h8]
      exact ⟨y :: ys, s', rfl, by rw [List.append_assoc] at h9; exact h9⟩
theorem w_comp {τ : Type} {own : List Nat} (enc : τ → D) (ts : List τ) (Inv : List τ → List D → Sto → Prop)
    (hi : WI (gi env st) fun xs lk s => xs = ts.map enc ∧ fits ts.length ∧ Inv [] [] s ∧ ∀ done out s, Inv done out s → lkOk xs s lk)
    (hstep : ∀ done x rest out s, ts = done ++ x :: rest → Inv done out s → WG (tg (enc x) (wipeE env own)) fun e1 => WT (t e1 s) fun b s1 => (b = true → WE (ge e1 s1) fun r s2 => WVT r fun y => Inv (done ++ [x]) (out ++ [y]) s2) ∧ (b = false → Inv (done ++ [x]) out s1))
    (hend : ∀ out s, Inv ts out s → Q (.fr (.lst out)) s) : WE (gComp gi own tg t ge env st) Q := by
  obtain ⟨xs, lk, s, e, rfl, hf, h0, hlk⟩ := hi
  obtain ⟨ys, s', h8, h9⟩ := compGo_w (env := wipeE env own) enc Inv ts (fun out s => Q (.fr (.lst out)) s) hlk hstep hend ts [] [] s rfl h0
  unfold gComp
  rw [e]
  dsimp only
  rw [List.length_map, if_pos (show ts.length ≤ sizeLine from hf), h8]
  exact WE_some.mpr h9
theorem w_comp0 {own : List Nat} (h : WI (gi env st) fun xs lk s => fits xs.length ∧ ∃ ys s', compGo lk xs tg t ge (wipeE env own) xs s = some (ys, s') ∧ Q (.fr (.lst ys)) s') : WE (gComp gi own tg t ge env st) Q := by
  obtain ⟨xs, lk, s, e, hf, ys, s', h8, h9⟩ := h
  unfold gComp
  rw [e]
  dsimp only
  rw [if_pos (show xs.length ≤ sizeLine from hf), h8]
  exact WE_some.mpr h9
theorem w_cgo {τ : Type} {lk : Option Nat} {xs : List D} {QC : List D → Sto → Prop} (enc : τ → D) (ts : List τ) (Inv : List τ → List D → Sto → Prop) (e : xs = ts.map enc) (h0 : Inv [] [] s) (hlk : ∀ done out s, Inv done out s → lkOk xs s lk)
    (hstep : ∀ done x rest out s, ts = done ++ x :: rest → Inv done out s → WG (tg (enc x) env) fun e1 => WT (t e1 s) fun b s1 => (b = true → WE (ge e1 s1) fun r s2 => WVT r fun y => Inv (done ++ [x]) (out ++ [y]) s2) ∧ (b = false → Inv (done ++ [x]) out s1))
    (hend : ∀ out s, Inv ts out s → QC out s) : ∃ ys s', compGo lk xs tg t ge env xs s = some (ys, s') ∧ QC ys s' := by
  have := compGo_w (tg := tg) (env := env) (t := t) (e := ge) (lk := lk) (src := xs) enc Inv ts QC hlk hstep hend ts [] [] s rfl h0
  rw [← e] at this
  exact this
/-- a comprehension that changes nothing: what is left, by f -/
theorem w_compP {τ : Type} {own : List Nat} (enc : τ → D) (ts : List τ) (p : τ → Bool) (f : τ → D)
    (hi : WI (gi env st) fun xs lk s => s = st ∧ xs = ts.map enc ∧ fits ts.length ∧ lkOk xs st lk)
    (hstep : ∀ x, x ∈ ts → WG (tg (enc x) (wipeE env own)) fun e1 => WT (t e1 st) fun b s1 => s1 = st ∧ b = p x ∧ (b = true → WE (ge e1 st) fun r s2 => s2 = st ∧ WVT r fun y => y = f x)) :
    gComp gi own tg t ge env st = some (.fr (.lst ((ts.filter p).map f)), st) := by
  have := w_comp (Q := fun r s => r = .fr (.lst ((ts.filter p).map f)) ∧ s = st) (gi := gi) (own := own) (tg := tg) (t := t) (ge := ge) (env := env) (st := st) enc ts (fun done out s => s = st ∧ out = (done.filter p).map f)
    (by obtain ⟨xs, lk, s, e, rfl, rfl, h1, h2⟩ := hi; exact ⟨_, lk, _, e, rfl, h1, ⟨rfl, rfl⟩, fun _ _ s h => h.1 ▸ h2⟩)
    (fun done x rest out s e h => by
      obtain ⟨rfl, rfl⟩ := h
      obtain ⟨e1, h1, b, s1, h2, rfl, rfl, h3⟩ := hstep x (by rw [e]; simp)
      refine ⟨e1, h1, _, _, h2, fun hb => ?_, fun hb => ⟨rfl, ?_⟩⟩
      · obtain ⟨r, s2, h4, rfl, y, h5, rfl⟩ := h3 hb
        refine ⟨r, _, h4, _, h5, rfl, ?_⟩
        rw [List.filter_append, List.map_append]
        simp [hb]
      · rw [List.filter_append, List.map_append]
        simp [hb])
    (fun out s h => ⟨by rw [h.2], h.1⟩)
  obtain ⟨r, s, e, rfl, rfl⟩ := this
  exact e
theorem w_yes : WT (gYes env st) QT ↔ QT true st := WT_some
/-! ### while -/
theorem w_while {body : GS} (Inv : Nat → Env → Sto → Prop) (m : Nat) (hl : st.length = n) (h0 : Inv m env st)
    (hstep : ∀ m env s, Inv m env s → WT (t env s) fun b s1 => (b = true → WS (body env s1) (KL n (fun e s => ∃ m', m' < m ∧ Inv m' e s) QS)) ∧ (b = false → QS (.nx env s1))) : WS (gWhile t body env st) QS := by
  subst hl
  have key : ∀ m env s, Inv m env s → ∃ k o, whileGo t body st.length k env s = some o ∧ QS o := by
    intro m
    induction m using Nat.strongRecOn with
    | ind m ih =>
      intro env s h
      obtain ⟨b, s1, h1, h2, h3⟩ := hstep m env s h
      cases b with
      | false => exact ⟨1, _, by unfold whileGo; rw [h1], h3 rfl⟩
      | true =>
        obtain ⟨o, h4, h5⟩ := h2 rfl
        cases o with
        | nx e2 s2 =>
          obtain ⟨m', hm, hI⟩ := h5
          obtain ⟨k, o, h6, h7⟩ := ih m' hm _ _ hI
          exact ⟨k + 1, o, by unfold whileGo; rw [h1]; dsimp only; rw [h4]; exact h6, h7⟩
        | ct e2 s2 =>
          obtain ⟨m', hm, hI⟩ := h5
          obtain ⟨k, o, h6, h7⟩ := ih m' hm _ _ hI
          exact ⟨k + 1, o, by unfold whileGo; rw [h1]; dsimp only; rw [h4]; exact h6, h7⟩
        | bk e2 s2 => exact ⟨1, _, by unfold whileGo; rw [h1]; dsimp only; rw [h4], h5⟩
        | rt r s2 => exact ⟨1, _, by unfold whileGo; rw [h1]; dsimp only; rw [h4], h5⟩
  obtain ⟨k, o, h1, h2⟩ := key m env st h0
  exact ⟨o, gWhile_of k h1, h2⟩
/-! ### methods -/
def WL (r : R) (Q : Nat → Prop) : Prop := ∃ n, r = .loc n ∧ Q n
theorem WL_loc {Z : Nat → Prop} : WL (.loc n) Z ↔ Z n := ⟨fun ⟨_, e, q⟩ => by cases e; exact q, fun q => ⟨n, rfl, q⟩⟩
def WC (st : Sto) (n : Nat) (Q : List D → Prop) : Prop := ∃ xs, st[n]? = some (.lst xs) ∧ Q xs
theorem w_app : WE (gApp go ge env st) Q ↔ WE (go env st) fun r s => WL r fun n => WC s n fun _ => WE (ge env s) fun r s2 => WVT r fun y => WC s2 n fun xs => xs.length < sizeLine ∧ Q (.d .non) (s2.set n (.lst (xs ++ [y]))) := by
  unfold gApp
  constructor
  · intro h
    split at h
    · rename_i n s1 e
      split at h
      · rename_i xs0 e0
        split at h
        · rename_i r s2 e2
          split at h
          · rename_i y xs e3 e4
            split at h
            · rename_i hz
              exact ⟨_, _, e, n, rfl, xs0, e0, r, s2, e2, y, e3, xs, e4, hz, WE_some.mp h⟩
            · exact (WE_none.mp h).elim
          · exact (WE_none.mp h).elim
        · exact (WE_none.mp h).elim
      · exact (WE_none.mp h).elim
    · exact (WE_none.mp h).elim
  · rintro ⟨r, s1, e, n, rfl, xs0, e0, r, s2, e2, y, e3, xs, e4, hz, q⟩
    rw [e]
    dsimp only
    rw [e0]
    dsimp only
    rw [e2]
    dsimp only
    rw [e3, e4]
    dsimp only
    rw [if_pos hz]
    exact WE_some.mpr q
theorem w_pop : WE (gPop go env st) Q ↔ WE (go env st) fun r s => WL r fun n => WC s n fun xs => WO xs[xs.length - 1]? fun y => Q (.d y) (s.set n (.lst xs.dropLast)) := by
  unfold gPop
  constructor
  · intro h
    split at h
    · rename_i n s1 e
      split at h
      · rename_i xs0 e0
        split at h
        · rename_i y e2
          exact ⟨_, _, e, n, rfl, xs0, e0, y, e2, WE_some.mp h⟩
        · exact (WE_none.mp h).elim
      · exact (WE_none.mp h).elim
    · exact (WE_none.mp h).elim
  · rintro ⟨r, s1, e, n, rfl, xs0, e0, y, e2, q⟩
    rw [e]
    dsimp only
    rw [e0]
    dsimp only
    rw [e2]
    exact WE_some.mpr q
theorem w_rev : WE (gRev go env st) Q ↔ WE (go env st) fun r s => WL r fun n => WC s n fun xs => Q (.d .non) (s.set n (.lst xs.reverse)) := by
  unfold gRev
  constructor
  · intro h
    split at h
    · rename_i n s1 e
      split at h
      · rename_i xs0 e0
        exact ⟨_, _, e, n, rfl, xs0, e0, WE_some.mp h⟩
      · exact (WE_none.mp h).elim
    · exact (WE_none.mp h).elim
  · rintro ⟨r, s1, e, n, rfl, xs0, e0, q⟩
    rw [e]
    dsimp only
    rw [e0]
    exact WE_some.mpr q
theorem w_popI (h : WE (go env st) fun r s => WL r fun n => WC s n fun _ => WE (ge env s) fun r s2 => ∃ i, r = .d (.int i) ∧ WC s2 n fun xs => sm62 i ∧ WO (seqIndex? i xs.length) fun k => WO xs[k]? fun y => Q (.d y) (s2.set n (.lst (xs.eraseIdx k)))) : WE (gPopI go ge env st) Q := by
  obtain ⟨r, s1, e, n, rfl, xs0, e0, r, s2, e2, i, rfl, xs, e3, hi, k, e4, y, e5, q⟩ := h
  unfold gPopI
  rw [e]
  dsimp only
  rw [e0]
  dsimp only
  rw [e2]
  dsimp only
  rw [e3]
  dsimp only
  rw [if_pos hi, e4]
  dsimp only
  rw [e5]
  exact WE_some.mpr q
theorem w_put {gi : GE} : WS (gPut go gi ge env st) QS ↔ WE (ge env st) fun r s1 => WE (go env s1) fun r2 s2 => WL r2 fun n => WE (gi env s2) fun rk s3 => WVT r fun y => WVT rk fun k => WO s3[n]? fun c => WO (putC c k y) fun c' => QS (.nx env (s3.set n c')) := by
  unfold gPut
  constructor
  · intro h
    split at h
    · rename_i r s1 e
      split at h
      · rename_i n s2 e2
        split at h
        · rename_i rk s3 e3
          split at h
          · rename_i y k c e4 e5 e6
            obtain ⟨o, e7, q⟩ := h
            obtain ⟨c', e8, rfl⟩ := Option.map_eq_some_iff.mp e7
            exact ⟨r, s1, e, _, s2, e2, n, rfl, rk, s3, e3, y, e4, k, e5, c, e6, c', e8, q⟩
          · exact (WS_none.mp h).elim
        · exact (WS_none.mp h).elim
      · exact (WS_none.mp h).elim
    · exact (WS_none.mp h).elim
  · rintro ⟨r, s1, e, _, s2, e2, n, rfl, rk, s3, e3, y, e4, k, e5, c, e6, c', e8, q⟩
    rw [e]
    dsimp only
    rw [e2]
    dsimp only
    rw [e3]
    dsimp only
    rw [e4, e5, e6]
    dsimp only
    rw [e8]
    exact WS_some.mpr q
theorem w_get (h : WE (go env st) fun ro s1 => WV s1 ro fun d0 => isDict d0 = true ∧ WE (gk env s1) fun rk s2 => WE (gd env s2) fun rd s3 => WV s3 ro fun d => WVT rk fun k => WVT rd fun y => WO (dget d k) fun o => Q (.d (o.getD y)) s3) : WE (gGet go gk gd env st) Q := by
  obtain ⟨ro, s1, e, d0, e0, hd, rk, s2, e2, rd, s3, e3, d, e4, k, e5, y, e6, o, e7, q⟩ := h
  unfold gGet
  rw [e]
  dsimp only
  rw [e0]
  dsimp only
  rw [if_pos hd, e2]
  dsimp only
  rw [e3]
  dsimp only
  rw [e4, e5, e6]
  dsimp only
  rw [e7]
  exact WE_some.mpr q
theorem w_getI : WE (gGet go gk gd env st) Q ↔ WE (go env st) fun ro s1 => WV s1 ro fun d0 => isDict d0 = true ∧ WE (gk env s1) fun rk s2 => WE (gd env s2) fun rd s3 => WV s3 ro fun d => WVT rk fun k => WVT rd fun y => WO (dget d k) fun o => Q (.d (o.getD y)) s3 := by
  refine ⟨fun h => ?_, w_get⟩
  unfold gGet at h
  split at h
  · rename_i ro s1 e
    split at h
    · rename_i d0 e0
      split at h
      · rename_i hd
        split at h
        · rename_i rk s2 e2
          split at h
          · rename_i rd s3 e3
            split at h
            · rename_i d k y e4 e5 e6
              split at h
              · rename_i o e7
                exact ⟨ro, s1, e, d0, e0, hd, rk, s2, e2, rd, s3, e3, d, e4, k, e5, y, e6, o, e7, WE_some.mp h⟩
              · exact (WE_none.mp h).elim
            · exact (WE_none.mp h).elim
          · exact (WE_none.mp h).elim
        · exact (WE_none.mp h).elim
      · exact (WE_none.mp h).elim
    · exact (WE_none.mp h).elim
  · exact (WE_none.mp h).elim
theorem w_isi {T : String} : WE (gIsi T ge env st) Q ↔ WE (ge env st) fun r s => WV s r fun x => WO (tyD x) fun t => WO (kitB t T) fun b => Q (.d (.bl b)) s := by
  unfold gIsi
  constructor
  · intro h
    split at h
    · rename_i r s1 e
      split at h
      · rename_i x e2
        split at h
        · rename_i t e3
          split at h
          · rename_i b e4
            exact ⟨r, s1, e, x, e2, t, e3, b, e4, WE_some.mp h⟩
          · exact (WE_none.mp h).elim
        · exact (WE_none.mp h).elim
      · exact (WE_none.mp h).elim
    · exact (WE_none.mp h).elim
  · rintro ⟨r, s1, e, x, e2, t, e3, b, e4, q⟩
    rw [e]
    dsimp only
    rw [e2]
    dsimp only
    rw [e3]
    dsimp only
    rw [e4]
    exact WE_some.mpr q
def WP (o : Option (Option Int × Sto)) (Q : Option Int → Sto → Prop) : Prop := ∃ x s, o = some (x, s) ∧ Q x s
theorem w_p0 {Z : Option Int → Sto → Prop} : WP (gPart none env st) Z ↔ Z none st := ⟨fun ⟨_, _, e, q⟩ => by cases e; exact q, fun q => ⟨_, _, rfl, q⟩⟩
theorem w_p1 {Z : Option Int → Sto → Prop} : WP (gPart (some ge) env st) Z ↔ WE (ge env st) fun r s => ∃ i, r = .d (.int i) ∧ Z (some i) s := by
  unfold gPart
  dsimp only
  constructor
  · intro h
    split at h
    · rename_i i s1 e
      obtain ⟨_, _, e2, q⟩ := h
      cases e2
      exact ⟨_, _, e, i, rfl, q⟩
    · obtain ⟨_, _, e2, q⟩ := h; cases e2
  · rintro ⟨r, s, e, i, rfl, q⟩
    rw [e]
    exact ⟨_, _, rfl, q⟩
theorem w_sl {gl gh : Option GE} : WE (gSl ge gl gh env st) Q ↔ WE (ge env st) fun r s1 => WP (gPart gl env s1) fun lo s2 => WP (gPart gh env s2) fun hi s3 => WV s3 r fun x => WO (opSl x lo hi) fun z => Q z s3 := by
  unfold gSl
  constructor
  · intro h
    split at h
    · rename_i r s1 e
      split at h
      · rename_i lo s2 e2
        split at h
        · rename_i hi s3 e3
          split at h
          · rename_i x e4
            obtain ⟨z, s', e5, q⟩ := h
            obtain ⟨z', e6, e7⟩ := Option.map_eq_some_iff.mp e5
            cases e7
            exact ⟨r, s1, e, lo, s2, e2, hi, s3, e3, x, e4, z, e6, q⟩
          · exact (WE_none.mp h).elim
        · exact (WE_none.mp h).elim
      · exact (WE_none.mp h).elim
    · exact (WE_none.mp h).elim
  · rintro ⟨r, s1, e, lo, s2, e2, hi, s3, e3, x, e4, z, e6, q⟩
    rw [e]
    dsimp only
    rw [e2]
    dsimp only
    rw [e3]
    dsimp only
    rw [e4]
    dsimp only
    rw [e6]
    exact WE_some.mpr q
theorem w_lstR : WE (gLstR gi env st) Q ↔ WI (gi env st) fun xs _ s => fits xs.length ∧ Q (.fr (.lst xs)) s := by
  unfold gLstR
  constructor
  · intro h
    split at h
    · rename_i xs lk s e
      split at h
      · rename_i hf; exact ⟨xs, lk, s, e, hf, WE_some.mp h⟩
      · exact (WE_none.mp h).elim
    · exact (WE_none.mp h).elim
  · rintro ⟨xs, lk, s, e, hf, q⟩
    rw [e]
    dsimp only
    rw [if_pos hf]
    exact WE_some.mpr q
theorem w_tupR : WE (gTupR gi env st) Q ↔ WI (gi env st) fun xs _ s => fits xs.length ∧ Q (.d (.tup xs)) s := by
  unfold gTupR
  constructor
  · intro h
    split at h
    · rename_i xs lk s e
      split at h
      · rename_i hf; exact ⟨xs, lk, s, e, hf, WE_some.mp h⟩
      · exact (WE_none.mp h).elim
    · exact (WE_none.mp h).elim
  · rintro ⟨xs, lk, s, e, hf, q⟩
    rw [e]
    dsimp only
    rw [if_pos hf]
    exact WE_some.mpr q
theorem w_newK : WE (gNewK env st) Q ↔ Q (.fr (.dK [])) st := WE_some
theorem w_newT : WE (gNewT env st) Q ↔ Q (.fr (.dT [])) st := WE_some
end
end DL

set_option Elab.async false
set_option linter.all false
set_option maxRecDepth 100000
set_option maxHeartbeats 4000000
/-! what the operators give on values of known shape -/
namespace DL
open PySem PySem.Spec PyProof.Rows L2
section
variable {i j : Int} {x y : Str} {xs ys : List D} {k : Nat} {b c : Bool}
theorem add_int : opAdd (.int i) (.int j) = some (.d (.int (i + j))) := rfl
theorem add_str : opAdd (.str x) (.str y) = if fits (x.length + y.length) then some (.d (.str (x ++ y))) else none := rfl
theorem add_tup : opAdd (.tup xs) (.tup ys) = if fits (xs.length + ys.length) then some (.d (.tup (xs ++ ys))) else none := rfl
theorem add_lst : opAdd (.lst xs) (.lst ys) = if fits (xs.length + ys.length) then some (.fr (.lst (xs ++ ys))) else none := rfl
theorem sub_int : opSub (.int i) (.int j) = some (.d (.int (i - j))) := rfl
theorem mul_int' : opMul (.int i) (.int j) = if mulOk i j then some (.d (.int (i * j))) else none := rfl
theorem mul_lst : opMul (.lst xs) (.int i) = if repOk xs.length i then some (.fr (.lst (List.replicate i.toNat xs).flatten)) else none := rfl
theorem fdiv_int : opFdiv (.int i) (.int j) = if divOk j then some (.d (.int (i.fdiv j))) else none := rfl
theorem mod_int : opMod (.int i) (.int j) = if j ≠ 0 then some (.d (.int (i.fmod j))) else none := rfl
theorem pow_int : opPow (.int i) (.int j) = if powOk i j then some (.d (.int (i ^ j.toNat))) else none := rfl
theorem neg_int : opNeg (.int i) = some (.d (.int (-i))) := rfl
theorem lt_int' : opLt (.int i) (.int j) = some (.d (.bl (decide (i < j)))) := rfl
theorem le_int' : opLe (.int i) (.int j) = some (.d (.bl (decide (i ≤ j)))) := rfl
theorem gt_int' : opGt (.int i) (.int j) = some (.d (.bl (decide (j < i)))) := rfl
theorem ge_int' : opGe (.int i) (.int j) = some (.d (.bl (decide (j ≤ i)))) := rfl
theorem is_non {d : D} : opIs d .non = some (.d (.bl (isNon d))) := by cases d <;> rfl
theorem isn_non {d : D} : opIsn d .non = some (.d (.bl (!isNon d))) := by cases d <;> rfl
theorem is_bl : opIs (.bl b) (.bl c) = some (.d (.bl (decide (b = c)))) := rfl
theorem isn_bl : opIsn (.bl b) (.bl c) = some (.d (.bl (!decide (b = c)))) := rfl
theorem isNon_int : isNon (.int i) = false := rfl
theorem isNon_str : isNon (.str x) = false := rfl
theorem isNon_tup : isNon (.tup xs) = false := rfl
theorem isNon_bl : isNon (.bl b) = false := rfl
theorem isNon_non : isNon .non = true := rfl
theorem len_str : opLen [.str x] = if fits x.length then some (.d (.int x.length)) else none := rfl
theorem len_tup : opLen [.tup xs] = some (.d (.int xs.length)) := rfl
theorem len_lst : opLen [.lst xs] = some (.d (.int xs.length)) := rfl
theorem len_frl : opLen [.frl xs] = some (.d (.int xs.length)) := rfl
theorem len_dK {kvs : List (Key × D)} : opLen [.dK kvs] = some (.d (.int kvs.length)) := rfl
theorem int_int : opInt [.int i] = some (.d (.int i)) := rfl
theorem int_bl : opInt [.bl b] = some (.d (.int (if b then 1 else 0))) := rfl
theorem abs_int : opAbs [.int i] = some (.d (.int (if i < 0 then -i else i))) := rfl
theorem sum_lst : opSum [.lst xs] = (intsOf xs).map fun is => .d (.int is.sum) := rfl
theorem any_lst : opAny [.lst xs] = (blsOf xs).map fun is => .d (.bl (is.any id)) := rfl
theorem all_lst : opAll [.lst xs] = (blsOf xs).map fun is => .d (.bl (is.all id)) := rfl
theorem max2_int : opMax2 [.int i, .int j] = some (.d (.int (max i j))) := rfl
theorem min2_int : opMin2 [.int i, .int j] = some (.d (.int (min i j))) := rfl
theorem tuple_lst : opTuple [.lst xs] = some (.d (.tup xs)) := rfl
theorem tuple_tup : opTuple [.tup xs] = some (.d (.tup xs)) := rfl
theorem list_lst : opList [.lst xs] = some (.fr (.lst xs)) := rfl
theorem list_tup : opList [.tup xs] = some (.fr (.lst xs)) := rfl
theorem ix_tup : opIx (.tup xs) (.int i) = (atI xs i).map .d := rfl
theorem ix_lst : opIx (.lst xs) (.int i) = (atI xs i).map .d := rfl
theorem ix_frl : opIx (.frl xs) (.int i) = (atI xs i).map .d := rfl
theorem sl_tup {lo hi : Option Int} : opSl (.tup xs) lo hi = some (.d (.tup (cutA xs lo hi))) := rfl
theorem sl_lst {lo hi : Option Int} : opSl (.lst xs) lo hi = some (.fr (.lst (cutA xs lo hi))) := rfl
theorem tg_d {d : D} : (R.d d).t = .d d := rfl
theorem tg_fr {d : D} : (R.fr d).t = .d d := rfl
theorem tg_loc : (R.loc k).t = .loc k := rfl
theorem cellV_lst : cellV (some (.lst xs)) = some (.lst xs) := rfl
theorem cellV_dK {kvs : List (Key × D)} : cellV (some (.dK kvs)) = some (.dK kvs) := rfl
theorem cellV_dT {kvs : List (List Key × D)} : cellV (some (.dT kvs)) = some (.dT kvs) := rfl
theorem wit_lst {s : Sto} {Q : List D → Option Nat → Prop} : WIt s (.d (.lst xs)) Q ↔ Q xs none := Iff.rfl
theorem wit_flst {s : Sto} {Q : List D → Option Nat → Prop} : WIt s (.fr (.lst xs)) Q ↔ Q xs none := Iff.rfl
theorem wit_tup {s : Sto} {Q : List D → Option Nat → Prop} : WIt s (.d (.tup xs)) Q ↔ Q xs none := Iff.rfl
theorem wit_frl {s : Sto} {Q : List D → Option Nat → Prop} : WIt s (.d (.frl xs)) Q ↔ Q xs none := Iff.rfl
theorem wit_str {s : Sto} {Q : List D → Option Nat → Prop} : WIt s (.d (.str x)) Q ↔ Q (signs x) none := Iff.rfl
theorem ints_map (ns : List Int) : intsOf (ns.map D.int) = some ns := by
  induction ns with
  | nil => rfl
  | cons n ns ih => rw [List.map_cons, intsOf, ih]
theorem ints_mapf {τ : Type} (f : τ → Int) (ts : List τ) : intsOf (ts.map fun t => D.int (f t)) = some (ts.map f) := by
  have := ints_map (ts.map f)
  rw [List.map_map] at this
  exact this
theorem bls_map (ns : List Bool) : blsOf (ns.map D.bl) = some ns := by
  induction ns with
  | nil => rfl
  | cons n ns ih => rw [List.map_cons, blsOf, ih]
theorem bls_mapf {τ : Type} (f : τ → Bool) (ts : List τ) : blsOf (ts.map fun t => D.bl (f t)) = some (ts.map f) := by
  have := bls_map (ts.map f)
  rw [List.map_map] at this
  exact this
/-! ### places -/
theorem atI_nat {α : Type} (zs : List α) (n : Nat) : atI zs (n : Int) = zs[n]? := by
  unfold atI ixN
  rw [if_pos (by omega)]
  by_cases h : n < zs.length
  · rw [if_pos (by omega), Int.toNat_natCast]; rfl
  · rw [if_neg (by omega), List.getElem?_eq_none (by omega)]; rfl
theorem atI_pos {α : Type} (zs : List α) {i : Int} (h : 0 ≤ i) : atI zs i = zs[i.toNat]? := by
  have := atI_nat zs i.toNat
  rwa [Int.toNat_of_nonneg h] at this
theorem atI_0 {α : Type} (z : α) (zs : List α) : atI (z :: zs) 0 = some z := atI_nat (z :: zs) 0
theorem atI_1 {α : Type} (z z1 : α) (zs : List α) : atI (z :: z1 :: zs) 1 = some z1 := atI_nat _ 1
theorem atI_2 {α : Type} (z z1 z2 : α) (zs : List α) : atI (z :: z1 :: z2 :: zs) 2 = some z2 := atI_nat _ 2
theorem atI_3 {α : Type} (z z1 z2 z3 : α) (zs : List α) : atI (z :: z1 :: z2 :: z3 :: zs) 3 = some z3 := atI_nat _ 3
theorem atI_map {α β : Type} (f : α → β) (zs : List α) (i : Int) : atI (zs.map f) i = (atI zs i).map f := by
  unfold atI
  rw [List.length_map]
  cases ixN zs.length i with
  | none => rfl
  | some j => simp
theorem atI_neg1 {α : Type} (zs : List α) : atI zs (-1) = zs.getLast? := by
  unfold atI ixN
  rw [if_neg (by omega)]
  cases zs with
  | nil => rfl
  | cons z zs =>
    rw [if_pos (by rw [List.length_cons]; omega)]
    rw [List.getLast?_eq_getElem?]
    show (z :: zs)[((-1 : Int) + ((z :: zs).length : Nat)).toNat]? = _
    congr 1
    omega
theorem atI_some {α : Type} {zs : List α} {i : Int} (h0 : 0 ≤ i) (h1 : i < zs.length) : ∃ z, atI zs i = some z ∧ z ∈ zs := by
  rw [atI_pos zs h0]
  have : i.toNat < zs.length := by omega
  exact ⟨zs[i.toNat], List.getElem?_eq_getElem this, List.getElem_mem this⟩
/-! ### the store -/
theorem st_len {st xs : Sto} : (st ++ xs).length = st.length + xs.length := List.length_append
theorem st_at {st : Sto} {z : D} {zs : Sto} : (st ++ z :: zs)[st.length]? = some z := by rw [List.getElem?_append_right (Nat.le_refl _), Nat.sub_self]; rfl
theorem st_at1 {st : Sto} {z z1 : D} {zs : Sto} : (st ++ z :: z1 :: zs)[st.length + 1]? = some z1 := by rw [List.getElem?_append_right (by omega)]; simp
theorem st_set {st : Sto} {z z' : D} {zs : Sto} : (st ++ z :: zs).set st.length z' = st ++ z' :: zs := by rw [List.set_append_right _ _ (Nat.le_refl _), Nat.sub_self]; rfl
theorem st_set1 {st : Sto} {z z1 z' : D} {zs : Sto} : (st ++ z :: z1 :: zs).set (st.length + 1) z' = st ++ z :: z' :: zs := by rw [List.set_append_right _ _ (by omega)]; simp
theorem st_take {st : Sto} {zs : Sto} : (st ++ zs).take st.length = st := List.take_left
theorem st_take1 {st : Sto} {z : D} {zs : Sto} : (st ++ z :: zs).take (st.length + 1) = st ++ [z] := by rw [List.take_append, List.take_of_length_le (by omega)]; simp
def c1 (n : Nat) (s : Sto) : Option R → Option R
  | some (.loc m) => if m < n then some (.loc m) else (cellV s[m]?).map .d
  | x => x
theorem clr_cons {n : Nat} {s : Sto} {e : Env} {x : Option R} : clr n s (x :: e) = c1 n s x :: clr n s e := rfl
theorem c1_none {n : Nat} {s : Sto} : c1 n s none = none := rfl
theorem c1_d {n : Nat} {s : Sto} {d : D} : c1 n s (some (.d d)) = some (.d d) := rfl
theorem c1_loc {n m : Nat} {s : Sto} : c1 n s (some (.loc m)) = if m < n then some (.loc m) else (cellV s[m]?).map .d := rfl
theorem clr_nil {n : Nat} {s : Sto} : clr n s [] = [] := rfl
theorem st_all {st : Sto} : st.take st.length = st := List.take_length
theorem st_lt : ¬ k < k := Nat.lt_irrefl k
/-! ### sizes -/
theorem fits_le {n m : Nat} (h : fits m) (h2 : n ≤ m) : fits n := Nat.le_trans h2 h
theorem fits_small {n : Nat} (h : n ≤ 16000000) : fits n := by unfold fits; rw [sizeLine_eq]; omega
theorem mulOk_l {i j : Int} (h1 : -18446744073709551616 < i) (h2 : i < 18446744073709551616) : mulOk i j := .inl ⟨h1, h2⟩
theorem mulOk_r {i j : Int} (h1 : -18446744073709551616 < j) (h2 : j < 18446744073709551616) : mulOk i j := .inr (.inl ⟨h1, h2⟩)
/-! ### == -/
theorem eq_int : opEq (.int i) (.int j) = some (.d (.bl (decide (i = j)))) := by
  unfold opEq
  have h1 : shp (.int i) = true := rfl
  have h2 : shp (.int j) = true := rfl
  rw [if_pos ⟨h1, h2⟩]
  unfold py PyData.eqv
  congr 3
theorem ne_int : opNe (.int i) (.int j) = some (.d (.bl (!decide (i = j)))) := by
  unfold opNe
  have h1 : shp (.int i) = true := rfl
  have h2 : shp (.int j) = true := rfl
  rw [if_pos ⟨h1, h2⟩]
  unfold py PyData.eqv
  congr 4
theorem eq_bl : opEq (.bl b) (.bl c) = some (.d (.bl (decide (b = c)))) := by
  unfold opEq
  have h1 : shp (.bl b) = true := rfl
  have h2 : shp (.bl c) = true := rfl
  rw [if_pos ⟨h1, h2⟩]
  unfold py PyData.eqv
  congr 3
theorem ne_bl : opNe (.bl b) (.bl c) = some (.d (.bl (!decide (b = c)))) := by
  unfold opNe
  have h1 : shp (.bl b) = true := rfl
  have h2 : shp (.bl c) = true := rfl
  rw [if_pos ⟨h1, h2⟩]
  unfold py PyData.eqv
  congr 4
theorem shp_str : shp (.str x) = PyData.strOk x := by
  unfold shp SeqAt.shaped py PyData.canLay0 PyData.depth
  simp
theorem eq_str (hx : PyData.strOk x = true) (hy : PyData.strOk y = true) : opEq (.str x) (.str y) = some (.d (.bl (decide (x = y)))) := by
  unfold opEq
  rw [if_pos ⟨shp_str.trans hx, shp_str.trans hy⟩]
  unfold py PyData.eqv
  congr 3
/-! ### data without bools: == is equality -/
mutual
/-- none, ints, texts, tuples and lists of these, at most that deep -/
def plainD : Nat → D → Bool
  | _, .non => true
  | _, .int _ => true
  | _, .str x => PyData.strOk x
  | 0, _ => false
  | n + 1, .tup xs => plainsD n xs
  | n + 1, .lst xs => plainsD n xs
  | _ + 1, _ => false
def plainsD : Nat → List D → Bool
  | _, [] => true
  | n, x :: xs => plainD n x && plainsD n xs
end
mutual
theorem plain_lay : ∀ (n : Nat) (d : D), plainD n d = true → (py d).canLay0 = true ∧ (py d).depth ≤ n
  | n, .non, _ => by unfold py PyData.canLay0 PyData.depth; exact ⟨rfl, Nat.zero_le _⟩
  | n, .int i, _ => by unfold py PyData.canLay0 PyData.depth; exact ⟨rfl, Nat.zero_le _⟩
  | n, .str x, h => by
    unfold plainD at h
    unfold py PyData.canLay0 PyData.depth
    exact ⟨h, Nat.zero_le _⟩
  | n + 1, .tup xs, h => by
    unfold plainD at h
    obtain ⟨a, b⟩ := plains_lay n xs h
    unfold py PyData.canLay0 PyData.depth
    exact ⟨a, Nat.succ_le_succ b⟩
  | n + 1, .lst xs, h => by
    unfold plainD at h
    obtain ⟨a, b⟩ := plains_lay n xs h
    unfold py PyData.canLay0 PyData.depth
    exact ⟨a, Nat.succ_le_succ b⟩
  | 0, .tup xs, h => by unfold plainD at h; cases h
  | 0, .lst xs, h => by unfold plainD at h; cases h
  | 0, .bl b, h => by unfold plainD at h; cases h
  | 0, .frl xs, h => by unfold plainD at h; cases h
  | 0, .frt xs, h => by unfold plainD at h; cases h
  | 0, .dK xs, h => by unfold plainD at h; cases h
  | 0, .dT xs, h => by unfold plainD at h; cases h
  | n + 1, .bl b, h => by unfold plainD at h; cases h
  | n + 1, .frl xs, h => by unfold plainD at h; cases h
  | n + 1, .frt xs, h => by unfold plainD at h; cases h
  | n + 1, .dK xs, h => by unfold plainD at h; cases h
  | n + 1, .dT xs, h => by unfold plainD at h; cases h
theorem plains_lay : ∀ (n : Nat) (ds : List D), plainsD n ds = true → PyData.canLayAll0 (pys ds) = true ∧ PyData.depthAll (pys ds) ≤ n
  | n, [], _ => by unfold pys PyData.canLayAll0 PyData.depthAll; exact ⟨rfl, Nat.zero_le _⟩
  | n, d :: ds, h => by
    unfold plainsD at h
    rw [Bool.and_eq_true] at h
    obtain ⟨a, b⟩ := plain_lay n d h.1
    obtain ⟨a', b'⟩ := plains_lay n ds h.2
    unfold pys PyData.canLayAll0 PyData.depthAll
    exact ⟨by rw [a, a']; rfl, Nat.max_le.mpr ⟨b, b'⟩⟩
end
theorem plain_shp {n : Nat} {d : D} (h : plainD n d = true) (hn : n ≤ 64) : shp d = true := by
  obtain ⟨a, b⟩ := plain_lay n d h
  unfold shp SeqAt.shaped
  rw [a, decide_eq_true (Nat.le_trans b hn)]; rfl
mutual
theorem plain_eqv : ∀ (n : Nat) (d e : D), plainD n d = true → plainD n e = true → (PyData.eqv (py d) (py e) = true ↔ d = e)
  | n, .non, e, _, he => by cases e <;> first | (unfold plainD at he; done) | (unfold py PyData.eqv; simp) | (cases n <;> simp [plainD] at he)
  | n, .int i, e, _, he => by cases e <;> first | (unfold py PyData.eqv; simp; done) | (cases n <;> simp [plainD] at he)
  | n, .str i, e, _, he => by cases e <;> first | (unfold py PyData.eqv; simp; done) | (cases n <;> simp [plainD] at he)
  | n + 1, .tup xs, e, h, he => by
    cases e with
    | tup ys =>
      unfold plainD at h he
      unfold py PyData.eqv
      rw [plains_eqv n xs ys h he]
      simp
    | non => unfold py PyData.eqv; simp
    | int i => unfold py PyData.eqv; simp
    | str i => unfold py PyData.eqv; simp
    | lst ys => unfold py PyData.eqv; simp
    | _ => simp [plainD] at he
  | n + 1, .lst xs, e, h, he => by
    cases e with
    | lst ys =>
      unfold plainD at h he
      unfold py PyData.eqv
      rw [plains_eqv n xs ys h he]
      simp
    | non => unfold py PyData.eqv; simp
    | int i => unfold py PyData.eqv; simp
    | str i => unfold py PyData.eqv; simp
    | tup ys => unfold py PyData.eqv; simp
    | _ => simp [plainD] at he
  | 0, .tup xs, _, h, _ => by unfold plainD at h; cases h
  | 0, .lst xs, _, h, _ => by unfold plainD at h; cases h
  | 0, .bl b, _, h, _ => by unfold plainD at h; cases h
  | 0, .frl xs, _, h, _ => by unfold plainD at h; cases h
  | 0, .frt xs, _, h, _ => by unfold plainD at h; cases h
  | 0, .dK xs, _, h, _ => by unfold plainD at h; cases h
  | 0, .dT xs, _, h, _ => by unfold plainD at h; cases h
  | n + 1, .bl b, _, h, _ => by unfold plainD at h; cases h
  | n + 1, .frl xs, _, h, _ => by unfold plainD at h; cases h
  | n + 1, .frt xs, _, h, _ => by unfold plainD at h; cases h
  | n + 1, .dK xs, _, h, _ => by unfold plainD at h; cases h
  | n + 1, .dT xs, _, h, _ => by unfold plainD at h; cases h
theorem plains_eqv : ∀ (n : Nat) (ds es : List D), plainsD n ds = true → plainsD n es = true → (PyData.eqvAll (pys ds) (pys es) = true ↔ ds = es)
  | n, [], [], _, _ => by unfold pys PyData.eqvAll; simp
  | n, [], e :: es, _, _ => by simp [pys, PyData.eqvAll]
  | n, d :: ds, [], _, _ => by simp [pys, PyData.eqvAll]
  | n, d :: ds, e :: es, h, he => by
    unfold plainsD at h he
    rw [Bool.and_eq_true] at h he
    have a := plain_eqv n d e h.1 he.1
    have b := plains_eqv n ds es h.2 he.2
    simp only [pys, PyData.eqvAll, Bool.and_eq_true, a, b, List.cons.injEq]
end
theorem plains_mem {n : Nat} : ∀ {ds : List D}, plainsD n ds = true ↔ ∀ d ∈ ds, plainD n d = true
  | [] => by simp [plainsD]
  | d :: ds => by simp [plainsD, plains_mem (ds := ds)]
open Classical in
theorem eq_plain {n : Nat} {d e : D} (hd : plainD n d = true) (he : plainD n e = true) (hn : n ≤ 64) : opEq d e = some (.d (.bl (decide (d = e)))) := by
  unfold opEq
  rw [if_pos ⟨plain_shp hd hn, plain_shp he hn⟩]
  congr 3
  exact Bool.eq_iff_iff.mpr (by rw [plain_eqv n d e hd he, decide_eq_true_eq])
open Classical in
theorem ne_plain {n : Nat} {d e : D} (hd : plainD n d = true) (he : plainD n e = true) (hn : n ≤ 64) : opNe d e = some (.d (.bl (!decide (d = e)))) := by
  unfold opNe
  rw [if_pos ⟨plain_shp hd hn, plain_shp he hn⟩]
  congr 4
  exact Bool.eq_iff_iff.mpr (by rw [plain_eqv n d e hd he, decide_eq_true_eq])
theorem any_pys (f : PyData → Bool) : ∀ ds : List D, (pys ds).any f = ds.any fun d => f (py d)
  | [] => rfl
  | d :: ds => by rw [pys, List.any_cons, List.any_cons, any_pys f ds]
open Classical in
theorem in_any {n : Nat} {d : D} {ds : List D} (hd : plainD n d = true) (h : plainsD n ds = true) : ((pys ds).any fun z => PyData.eqv z (py d)) = decide (d ∈ ds) := by
  rw [any_pys]
  refine Bool.eq_iff_iff.mpr ?_
  rw [List.any_eq_true, decide_eq_true_eq]
  constructor
  · rintro ⟨e, he, q⟩
    rw [plain_eqv n e d (plains_mem.mp h e he) hd] at q
    exact q ▸ he
  · intro hm
    exact ⟨d, hm, (plain_eqv n d d hd hd).mpr rfl⟩
open Classical in
theorem in_tup {neg : Bool} {n : Nat} {d : D} {ds : List D} (hd : plainD n d = true) (h : plainsD n ds = true) (hn : n < 64) : opIn neg d (.tup ds) = some (.d (.bl (xor neg (decide (d ∈ ds))))) := by
  have h1 : shp d = true := plain_shp hd (Nat.le_of_lt hn)
  have h2 : shp (.tup ds) = true := plain_shp (n := n + 1) (by unfold plainD; exact h) hn
  rw [← in_any hd h]
  cases d <;> (simp only [opIn]; rw [if_pos ⟨h1, h2⟩])
open Classical in
theorem in_lst {neg : Bool} {n : Nat} {d : D} {ds : List D} (hd : plainD n d = true) (h : plainsD n ds = true) (hn : n < 64) : opIn neg d (.lst ds) = some (.d (.bl (xor neg (decide (d ∈ ds))))) := by
  have h1 : shp d = true := plain_shp hd (Nat.le_of_lt hn)
  have h2 : shp (.lst ds) = true := plain_shp (n := n + 1) (by unfold plainD; exact h) hn
  rw [← in_any hd h]
  cases d <;> (simp only [opIn]; rw [if_pos ⟨h1, h2⟩])
theorem plains_ints (n : Nat) (ns : List Int) : plainsD n (ns.map D.int) = true := plains_mem.mpr fun d hd => by
  obtain ⟨i, _, rfl⟩ := List.mem_map.mp hd
  unfold plainD; rfl
theorem in_ints_tup {neg : Bool} {ns : List Int} : opIn neg (.int i) (.tup (ns.map D.int)) = some (.d (.bl (xor neg (decide (i ∈ ns))))) := by
  rw [in_tup (n := 1) (by unfold plainD; rfl) (plains_ints 1 ns) (by decide)]
  congr 4
  simp
theorem in_ints_lst {neg : Bool} {ns : List Int} : opIn neg (.int i) (.lst (ns.map D.int)) = some (.d (.bl (xor neg (decide (i ∈ ns))))) := by
  rw [in_lst (n := 1) (by unfold plainD; rfl) (plains_ints 1 ns) (by decide)]
  congr 4
  simp
end

/-! ### short ways -/
theorem lt_a1 {n : Nat} : n < n + 1 := by omega
theorem lt_a2 {n : Nat} : n < n + 2 := by omega
theorem lt_a3 {n : Nat} : n + 1 < n + 2 := by omega
theorem st_take2 {st : Sto} {z z1 : D} {zs : Sto} : (st ++ z :: z1 :: zs).take (st.length + 2) = st ++ [z, z1] := by rw [List.take_append, List.take_of_length_le (by omega)]; simp
theorem lt_size {n : Nat} (h : n < 16000000) : n < sizeLine := by rw [sizeLine_eq]; omega
theorem ixN_in {n : Nat} {i : Int} (h0 : 0 ≤ i) (h1 : i < n) : ixN n i = some i.toNat := by unfold ixN; rw [if_pos h0, if_pos h1]
theorem put_lst {xs : List D} {i : Int} {y : D} : putC (.lst xs) (.int i) y = (ixN xs.length i).map fun j => .lst (xs.set j y) := rfl
theorem put_dK {kvs : List (Key × D)} {k y : D} : putC (.dK kvs) k y = if kvs.length < sizeLine then (keyD k).map fun k => .dK (putA kvs k y) else none := rfl
theorem fmod_in {a b : Int} (h : 0 < b) : 0 ≤ a.fmod b ∧ a.fmod b < b := ⟨Int.fmod_nonneg_of_pos _ h, Int.fmod_lt_of_pos _ h⟩
theorem pw10_18 : powOk 10 18 := by decide
theorem pw10_28 : powOk 10 28 := by decide
theorem pw10_60 : powOk 10 60 := by decide
theorem dv1000 : divOk 1000 := by decide
theorem WC_of {st : Sto} {n : Nat} {xs : List D} {Q : List D → Prop} (h : st[n]? = some (.lst xs)) : WC st n Q ↔ Q xs :=
  ⟨fun ⟨ys, e, q⟩ => by rw [h] at e; cases e; exact q, fun q => ⟨xs, h, q⟩⟩
theorem WC_z {st : Sto} {xs : List D} {Q : List D → Prop} : WC (.lst xs :: st) 0 Q ↔ Q xs := WC_of rfl
theorem WC_s {st : Sto} {a : D} {n : Nat} {Q : List D → Prop} : WC (a :: st) (n + 1) Q ↔ WC st n Q := Iff.rfl
theorem set_self {st : Sto} {n : Nat} {x : D} (h : st[n]? = some x) : st.set n x = st := by
  obtain ⟨h1, h2⟩ := List.getElem?_eq_some_iff.mp h
  rw [← h2]; exact List.set_getElem_self h1
theorem take_set {st : Sto} {n : Nat} {x : D} : (st.set n x).take st.length = st.set n x := List.take_of_length_le (by rw [List.length_set]; exact Nat.le_refl _)
theorem take_set' {st : Sto} {n m : Nat} {x : D} (h : m = st.length) : (st.set n x).take m = st.set n x := by subst h; exact take_set
theorem of_we {o : Option (R × Sto)} {r0 : R} {s0 : Sto} (h : WE o fun r s => r = r0 ∧ s = s0) : o = some (r0, s0) := by
  obtain ⟨_, _, e, rfl, rfl⟩ := h; exact e
/-- r is a row that stands still -/
def Seq (st : Sto) (r : R) (xs : List D) : Prop := ∃ lk, (∀ Q : List D → Option Nat → Prop, Q xs lk → WIt st r Q) ∧ lkOk xs st lk ∧ (val st r = some (.lst xs) ∨ val st r = some (.tup xs) ∨ val st r = some (.frl xs)) ∧ r.t = r ∧ c1 st.length st (some r) = some r
theorem seq_tup {st : Sto} {xs : List D} : Seq st (.d (.tup xs)) xs := ⟨none, fun Q h => h, trivial, .inr (.inl rfl), rfl, rfl⟩
theorem seq_lst {st : Sto} {xs : List D} : Seq st (.d (.lst xs)) xs := ⟨none, fun Q h => h, trivial, .inl rfl, rfl, rfl⟩
theorem seq_frl {st : Sto} {xs : List D} : Seq st (.d (.frl xs)) xs := ⟨none, fun Q h => h, trivial, .inr (.inr rfl), rfl, rfl⟩
theorem seq_loc {st : Sto} {n : Nat} {xs : List D} (h : st[n]? = some (.lst xs)) : Seq st (.loc n) xs := ⟨some n, fun Q q => by unfold WIt; dsimp only; rw [h]; exact q, h, .inl (by show cellV st[n]? = _; rw [h]; rfl), rfl, by rw [c1_loc, if_pos (List.getElem?_eq_some_iff.mp h).1]⟩
theorem Seq.t {st : Sto} {r : R} {xs : List D} (h : Seq st r xs) : r.t = r := by obtain ⟨_, _, _, _, h, _⟩ := h; exact h
theorem Seq.c1 {st : Sto} {r : R} {xs : List D} (h : Seq st r xs) : DL.c1 st.length st (some r) = some r := by obtain ⟨_, _, _, _, _, h⟩ := h; exact h
section
variable {st : Sto} {r : R} {xs : List D} {env : Env} {i : Nat}
theorem Seq.len (h : Seq st r xs) {Q : R → Prop} (q : Q (.d (.int xs.length))) : WO (curs st [r]) fun ds => WO (opLen ds) Q := by
  obtain ⟨lk, h1, h2, h3, _⟩ := h
  rw [w_curs1]
  rcases h3 with h3 | h3 | h3 <;> exact ⟨_, h3, WO_some.mpr (WO_some.mpr q)⟩
theorem Seq.at_ (h : Seq st r xs) {j : Int} {x : D} (e : atI xs j = some x) {Q : R → Prop} (q : Q (.d x)) : WV st r fun y => WO (opIx y (.int j)) Q := by
  obtain ⟨lk, h1, h2, h3, _⟩ := h
  rcases h3 with h3 | h3 | h3
  · exact ⟨_, h3, by dsimp only; rw [ix_lst, WO_map, e, WO_some]; exact q⟩
  · exact ⟨_, h3, by dsimp only; rw [ix_tup, WO_map, e, WO_some]; exact q⟩
  · exact ⟨_, h3, by dsimp only; rw [ix_frl, WO_map, e, WO_some]; exact q⟩
theorem Seq.it {τ : Type} {enc : τ → D} {ts : List τ} (h : Seq st r (ts.map enc)) (he : env[i]? = some (some r)) (hf : fits ts.length) : WI (gIter (gVar i) env st) fun ys lk s => s = st ∧ ys = ts.map enc ∧ fits ts.length ∧ lkOk ys st lk := by
  obtain ⟨lk, h1, h2, h3, _⟩ := h
  refine wi_iter (w_var.mpr (by rw [he, WO_some, WO_some]; exact h1 _ ⟨rfl, rfl, hf, h2⟩))
end
theorem filter_tt {α : Type} (l : List α) : l.filter (fun _ => true) = l := by induction l with
  | nil => rfl
  | cons x l ih => rw [List.filter_cons_of_pos rfl, ih]
mutual
/-- what _law_same takes for the same as itself -/
def tame : Nat → D → Bool
  | _, .non => true
  | _, .int _ => true
  | _, .bl _ => true
  | _, .str x => PyData.strOk x
  | 0, _ => false
  | n + 1, .tup xs => decide (xs.length < 1000000) && tames n xs
  | _ + 1, _ => false
def tames : Nat → List D → Bool
  | _, [] => true
  | n, x :: xs => tame n x && tames n xs
end
theorem tames_mem {n : Nat} : ∀ {ds : List D}, tames n ds = true ↔ ∀ d ∈ ds, tame n d = true
  | [] => by simp [tames]
  | d :: ds => by simp [tames, tames_mem (ds := ds)]
theorem tame_non (n : Nat) : tame n .non = true := by unfold tame; rfl
theorem tame_int (n : Nat) (i : Int) : tame n (.int i) = true := by unfold tame; rfl
theorem tame_bl (n : Nat) (i : Bool) : tame n (.bl i) = true := by unfold tame; rfl
theorem tame_tup {n : Nat} {xs : List D} : tame (n + 1) (.tup xs) = (decide (xs.length < 1000000) && tames n xs) := by rw [tame]
theorem sm_nat {n : Nat} (h : n < 1000000000) : sm62 n := by unfold sm62; omega
theorem sm_int {n : Int} (h : -1000000000 < n) (h2 : n < 1000000000) : sm62 n := by unfold sm62; omega
theorem rg0 {n : Nat} : rgD 0 n = (List.range n).map fun i : Nat => D.int (i : Int) := by
  unfold rgD
  refine List.map_congr_left fun i _ => ?_
  rw [Int.zero_add]
theorem range_at {n : Nat} {done rest : List Nat} {x : Nat} (h : List.range n = done ++ x :: rest) : x = done.length ∧ x < n := by
  have h1 : (List.range n)[done.length]? = some x := by rw [h, List.getElem?_append_right (Nat.le_refl _), Nat.sub_self]; rfl
  have hl : done.length < (List.range n).length := (List.getElem?_eq_some_iff.mp h1).1
  rw [List.length_range] at hl
  rw [List.getElem?_range hl] at h1
  cases h1
  exact ⟨rfl, hl⟩
theorem kit_bb : kitB "bool" "bool" = some true := by decide +kernel
theorem kit_ib : kitB "int" "bool" = some false := by decide +kernel
theorem kit_ii : kitB "int" "int" = some true := by decide +kernel
theorem kit_sb : kitB "str" "bool" = some false := by decide +kernel
theorem kit_si : kitB "str" "int" = some false := by decide +kernel
theorem kit_ss : kitB "str" "str" = some true := by decide +kernel
theorem kit_tb : kitB "tuple" "bool" = some false := by decide +kernel
theorem kit_ti : kitB "tuple" "int" = some false := by decide +kernel
theorem kit_ts : kitB "tuple" "str" = some false := by decide +kernel
theorem kit_tt : kitB "tuple" "tuple" = some true := by decide +kernel
theorem ty_int {i : Int} : tyD (.int i) = some "int" := rfl
theorem ty_bl {i : Bool} : tyD (.bl i) = some "bool" := rfl
theorem ty_str {i : Str} : tyD (.str i) = some "str" := rfl
theorem ty_tup {i : List D} : tyD (.tup i) = some "tuple" := rfl

/-! ### sets of ints, sorted -/
theorem keyTs_ints {τ : Type} (f : τ → Int) : ∀ ts : List τ, keyTs (ts.map fun t => D.int (f t)) = some (ts.map fun t => (Sum.inl (f t) : Key))
  | [] => rfl
  | t :: ts => by rw [List.map_cons, keyTs, keyTs_ints f ts]; rfl
theorem oneK_ints {τ : Type} (f : τ → Int) (ts : List τ) : oneK (ts.map fun t => (Sum.inl (f t) : Key)) = true := by
  cases ts with
  | nil => rfl
  | cons t ts => rw [List.map_cons, oneK]; simp
/-- the ints of a row, each once, upwards -/
def sortI (ns : List Int) : List Int := (ddp ns).mergeSort fun a b => decide (a ≤ b)
theorem ddp_map {α β : Type} [DecidableEq α] [DecidableEq β] {f : α → β} (hf : ∀ a b, f a = f b → a = b) : ∀ xs : List α, ddp (xs.map f) = (ddp xs).map f
  | [] => rfl
  | x :: xs => by
    rw [List.map_cons, ddp, ddp]
    by_cases h : x ∈ xs
    · rw [if_pos h, if_pos (List.mem_map.mpr ⟨x, h, rfl⟩), ddp_map hf xs]
    · rw [if_neg h, if_neg (fun q => by obtain ⟨y, hy, e⟩ := List.mem_map.mp q; exact h (hf _ _ e ▸ hy)), ddp_map hf xs]; rfl
theorem leD_int (a b : Int) : leD (.int a) (.int b) = decide (a ≤ b) := by
  have := congrFun (congrFun (PySem.W.dataLe_int (fun i : Int => i)) a) b
  exact this
theorem srtK_ints (ns : List Int) : srtK (ns.map Sum.inl) = (sortI ns).map Sum.inl := by
  unfold srtK sortI
  rw [ddp_map fun a b h => Sum.inl.inj h]
  exact (List.map_mergeSort (f := fun i : Int => (Sum.inl i : Key)) (r := fun a b => decide (a ≤ b)) (s := leK) fun a _ b _ => (leD_int a b).symm).symm
theorem kD_ints (ns : List Int) : (ns.map (Sum.inl : Int → Key)).map kD = ns.map D.int := by rw [List.map_map]; rfl
theorem mem_sortI {ns : List Int} {k : Int} : k ∈ sortI ns ↔ k ∈ ns := (List.mergeSort_perm _ _).mem_iff.trans mem_ddp
theorem ss_ints {τ : Type} {f : τ → Int} {ts : List τ} (h : ts.length < 4000) : opSS (.lst (ts.map fun t => D.int (f t))) = some (.fr (.lst ((sortI (ts.map f)).map D.int))) := by
  unfold opSS
  dsimp only
  rw [keyTs_ints]
  dsimp only
  rw [if_pos ⟨by rw [List.length_map]; unfold scanBound; omega, oneK_ints f ts⟩]
  rw [show (ts.map fun t => (Sum.inl (f t) : Key)) = (ts.map f).map Sum.inl from by rw [List.map_map]; rfl, srtK_ints, kD_ints]
theorem fit0 : fits 0 = True := eq_true (fits_small (by decide))
theorem fit1 : fits 1 = True := eq_true (fits_small (by decide))
theorem fit2 : fits 2 = True := eq_true (fits_small (by decide))
theorem fit3 : fits 3 = True := eq_true (fits_small (by decide))
theorem fit4 : fits 4 = True := eq_true (fits_small (by decide))
theorem fit5 : fits 5 = True := eq_true (fits_small (by decide))
theorem fit6 : fits 6 = True := eq_true (fits_small (by decide))
theorem fit7 : fits 7 = True := eq_true (fits_small (by decide))
theorem fit8 : fits 8 = True := eq_true (fits_small (by decide))
theorem fit9 : fits 9 = True := eq_true (fits_small (by decide))
theorem fit10 : fits 10 = True := eq_true (fits_small (by decide))
theorem fit11 : fits 11 = True := eq_true (fits_small (by decide))
theorem fit12 : fits 12 = True := eq_true (fits_small (by decide))
theorem fit13 : fits 13 = True := eq_true (fits_small (by decide))
theorem fit14 : fits 14 = True := eq_true (fits_small (by decide))
theorem fit15 : fits 15 = True := eq_true (fits_small (by decide))
theorem fit16 : fits 16 = True := eq_true (fits_small (by decide))
theorem fit17 : fits 17 = True := eq_true (fits_small (by decide))
theorem fit18 : fits 18 = True := eq_true (fits_small (by decide))
theorem fit19 : fits 19 = True := eq_true (fits_small (by decide))
theorem fit20 : fits 20 = True := eq_true (fits_small (by decide))
theorem fit21 : fits 21 = True := eq_true (fits_small (by decide))
theorem fit22 : fits 22 = True := eq_true (fits_small (by decide))
theorem fit23 : fits 23 = True := eq_true (fits_small (by decide))
theorem fit24 : fits 24 = True := eq_true (fits_small (by decide))
theorem fit25 : fits 25 = True := eq_true (fits_small (by decide))
theorem fit26 : fits 26 = True := eq_true (fits_small (by decide))
theorem fit27 : fits 27 = True := eq_true (fits_small (by decide))
theorem fit28 : fits 28 = True := eq_true (fits_small (by decide))
theorem fit29 : fits 29 = True := eq_true (fits_small (by decide))
theorem fit30 : fits 30 = True := eq_true (fits_small (by decide))
theorem tames_nil {n : Nat} : tames n [] = true := by unfold tames; rfl
theorem tames_cons {n : Nat} {x : D} {xs : List D} : tames n (x :: xs) = (tame n x && tames n xs) := by rw [tames]
theorem tame_tup2 {xs : List D} : ∀ {n : Nat}, tame (n + 1) (.tup xs) = (decide (xs.length < 1000000) && tames n xs) := tame_tup
theorem sortI_of {ns l : List Int} (hs : l.Pairwise (· < ·)) (hm : ∀ k, k ∈ l ↔ k ∈ ns) : sortI ns = l := by
  unfold sortI
  have tr : ∀ a b c : Int, decide (a ≤ b) = true → decide (b ≤ c) = true → decide (a ≤ c) = true := fun a b c h1 h2 => decide_eq_true (Int.le_trans (of_decide_eq_true h1) (of_decide_eq_true h2))
  have tt : ∀ a b : Int, (decide (a ≤ b) || decide (b ≤ a)) = true := fun a b => by rcases Int.le_total a b with h | h <;> simp [h]
  refine perm_ord (le := fun a b : Int => decide (a ≤ b)) (fun a b h1 h2 => Int.le_antisymm (of_decide_eq_true h1) (of_decide_eq_true h2)) ?_ (List.pairwise_mergeSort tr tt _) (hs.imp fun h => decide_eq_true (Int.le_of_lt h))
  refine (List.mergeSort_perm _ _).trans ((List.perm_ext_iff_of_nodup (nodup_ddp _) (hs.imp fun h => Int.ne_of_lt h)).mpr fun k => by rw [mem_ddp, hm k])
theorem ss_ints2 {ns : List Int} (h : ns.length < 4000) : opSS (.lst (ns.map D.int)) = some (.fr (.lst ((sortI ns).map D.int))) := by
  have := ss_ints (f := fun i : Int => i) (ts := ns) h
  rw [show ns.map (fun i => i) = ns from by simp] at this
  exact this

section
variable {QS : Out → Prop} {st : Sto} {env : Env} {i j l : Nat} {ga gb gc : GE}
theorem w_parB : WS (gPar i j (gA1 ga (gA1 gb gA0)) env st) QS ↔ WE (ga env st) fun r1 s1 => WE (gb env s1) fun r2 s2 => QS (.nx ((env.set i (some r1.t)).set j (some r2.t)) s2) := by
  simp only [w_par, w_A1, w_A0, List.cons.injEq, and_true, exists_eq_left', exists_and_left, and_assoc, true_and]
theorem w_parC : WS (gPar3 i j l (gA1 ga (gA1 gb (gA1 gc gA0))) env st) QS ↔ WE (ga env st) fun r1 s1 => WE (gb env s1) fun r2 s2 => WE (gc env s2) fun r3 s3 => QS (.nx (((env.set i (some r1.t)).set j (some r2.t)).set l (some r3.t)) s3) := by
  simp only [w_par3, w_A1, w_A0, List.cons.injEq, and_true, exists_eq_left', exists_and_left, and_assoc, true_and]
end
theorem ix_frt {xs : List D} {i : Int} : opIx (.frt xs) (.int i) = (atI xs i).map .d := rfl
theorem len_frt0 : True := trivial
end DL

set_option Elab.async false
set_option linter.all false
set_option maxRecDepth 100000
set_option maxHeartbeats 4000000
/-! pairs of places, gathered by two loops -/
namespace DL
open PySem
open L2 (atI)
def pairIn (n : Nat) (cond : Nat → Nat → Bool) (i : Nat) : List (Nat × Nat) := ((List.range (n - (i + 1))).filter fun j => cond i (i + 1 + j)).map fun j => (i, i + 1 + j)
def encP (p : Nat × Nat) : D := .tup [.int (p.1 : Int), .int (p.2 : Int)]
theorem pairIn_len (n : Nat) (cond : Nat → Nat → Bool) (i : Nat) : (pairIn n cond i).length ≤ n := by
  unfold pairIn
  rw [List.length_map]
  refine Nat.le_trans (List.length_filter_le _ _) ?_
  rw [List.length_range]; omega
theorem flat_len {α β : Type} (f : α → List β) (m : Nat) (h : ∀ x, (f x).length ≤ m) : ∀ l : List α, (l.flatMap f).length ≤ l.length * m
  | [] => by simp
  | x :: l => by
    have := flat_len f m h l
    have := h x
    rw [List.flatMap_cons, List.length_append, List.length_cons, Nat.succ_mul]
    omega
theorem rgN {i n : Nat} : rgD ((i : Int) + 1) ((n : Int) - ((i : Int) + 1)).toNat = (List.range (n - (i + 1))).map fun j : Nat => D.int ((i + 1 + j : Nat) : Int) := by
  unfold rgD
  rw [show ((n : Int) - ((i : Int) + 1)).toNat = n - (i + 1) by omega]
  refine List.map_congr_left fun j _ => ?_
  congr 1
theorem get_set_ne {e : Env} {a v : Nat} {x : Option R} (h : a ≠ v) : (e.set a x)[v]? = e[v]? := List.getElem?_set_ne h
theorem get_set_eq {e : Env} {a : Nat} {x : Option R} (h : a < e.length) : (e.set a x)[a]? = some x := List.getElem?_set_self h
theorem set_set2 {e : Env} {a b : Nat} {x y z : Option R} (h : a ≠ b) : ((e.set a x).set b y).set a z = (e.set a z).set b y := by
  rw [List.set_comm _ _ (Ne.symm h), List.set_set]
def pairsD (n : Nat) (cond : Nat → Nat → Bool) : List D := ((List.range n).flatMap (pairIn n cond)).map encP
theorem w_pairs {T : GT} {a b f v c n : Nat} {cond : Nat → Nat → Bool} {base : Env} {s0 : Sto} {xs : List D} {Q : Out → Prop} (P : Env → Prop) (hP : P base) (hab : a ≠ b) (haf : a ≠ f) (hbf : b ≠ f) (hav : a ≠ v) (hbv : b ≠ v)
    (hl : ∀ e, P e → a < e.length ∧ b < e.length ∧ e[v]? = some (some (.d (.tup xs))) ∧ e[f]? = some (some (.loc c))) (hn : xs.length = n) (hz : n < 1000) (hc : s0[c]? = some (.lst []))
    (hT : ∀ e i j s, P e → i < n → j < n → s.length = s0.length → (∀ k, k ≠ c → s[k]? = s0[k]?) → WT (T ((e.set a (some (.d (.int (i : Int))))).set b (some (.d (.int (j : Int))))) s) fun r s' => s' = s ∧ r = cond i j)
    (hclr : ∀ e x y s, P e → s.length = s0.length → ∃ e', P e' ∧ clr s0.length s ((e.set a x).set b y) = (e'.set a (c1 s0.length s x)).set b (c1 s0.length s y))
    (hQ : ∀ e x y, P e → Q (.nx ((e.set a x).set b y) (s0.set c (.lst (pairsD n cond))))) :
    WS (gFor (gRng1 (gBlt opLen (gA1 (gVar v) gA0))) (gN a) (gFor (gRng2 (gOp opAdd (gVar a) (gC (.int 1))) (gBlt opLen (gA1 (gVar v) gA0))) (gN b) (gIf T (gDrop (gApp (gVar f) (gTup (gA1 (gVar a) (gA1 (gVar b) gA0))))) gNext)) base s0) Q := by
  have hcl : c < s0.length := (List.getElem?_eq_some_iff.mp hc).1
  obtain ⟨ha, hb, hv, hf⟩ := hl base hP
  obtain ⟨x0, hx0⟩ : ∃ x0, base[a]? = some x0 := ⟨_, List.getElem?_eq_getElem ha⟩
  obtain ⟨y0, hy0⟩ : ∃ y0, base[b]? = some y0 := ⟨_, List.getElem?_eq_getElem hb⟩
  have b0 : base = (base.set a x0).set b y0 := by
    obtain ⟨_, e1⟩ := List.getElem?_eq_some_iff.mp hx0
    obtain ⟨_, e2⟩ := List.getElem?_eq_some_iff.mp hy0
    subst e1 e2
    rw [List.set_getElem_self, List.set_getElem_self]
  have st0 : s0 = s0.set c (.lst []) := (set_self hc).symm
  have gv : ∀ {e}, P e → ∀ x y, ((e.set a x).set b y)[v]? = some (some (.d (.tup xs))) := fun p x y => by rw [get_set_ne hbv, get_set_ne hav, (hl _ p).2.2.1]
  have gf : ∀ {e}, P e → ∀ x y, ((e.set a x).set b y)[f]? = some (some (.loc c)) := fun p x y => by rw [get_set_ne hbf, get_set_ne haf, (hl _ p).2.2.2]
  have gb : ∀ {e}, P e → ∀ x y, ((e.set a x).set b y)[b]? = some y := fun p x y => get_set_eq (by rw [List.length_set]; exact (hl _ p).2.1)
  have ga : ∀ {e}, P e → ∀ x y, ((e.set a x).set b y)[a]? = some x := fun p x y => by rw [get_set_ne hab.symm, get_set_eq (hl _ p).1]
  refine w_for (n := s0.length) (fun i : Nat => D.int (i : Int)) (List.range n) (fun done e s => (∃ e' x y, P e' ∧ e = (e'.set a x).set b y) ∧ s = s0.set c (.lst ((done.flatMap (pairIn n cond)).map encP))) (wi_rng1 ?_) ?_ ?_
  · simp only [w_seq, KS_nx, KS_rt, KS_bk, KS_ct, w_next, w_set, w_setM, w_drop, w_ret, w_retN, w_brk, w_cnt, w_if, w_asg, w_parB, w_parC, w_N, w_N0, w_N1, w_NT, KF_nx, KF_rt, w_fun, fin_d, fin_fr, w_fin, WE_some, WT_some, WA_some, WI_some, WS_some, WV_d, WV_fr, WV_loc, WVT_d, WVT_fr, WB_bl, WF_fr, WG_some, WO_some, WO_ite, WO_map, w_var, w_C, w_op, w_un, w_test, w_chain, w_and, w_or, w_not, w_VT, w_ifE, w_A0, w_A1, w_call, w_blt, w_curs0, w_curs1, w_vals0, w_vals1, w_tup, w_lst, w_yes, WL_loc, w_app, w_pop, w_rev, w_put, w_getI, w_isi, w_p0, w_p1, w_sl, w_lstR, w_tupR, w_newK, w_newT, KL_nx, KL_ct, KL_bk, KL_rt, wipeE, clr_nil, clr_cons, c1_none, c1_d, c1_loc, WC_z, WC_s, lt_a1, lt_a2, lt_a3, st_take2, put_lst, put_dK, kit_bb, kit_ib, kit_ii, kit_sb, kit_si, kit_ss, kit_tb, kit_ti, kit_ts, kit_tt, ty_int, ty_bl, ty_str, ty_tup, add_int, add_str, add_tup, add_lst, sub_int, mul_int', mul_lst, fdiv_int, mod_int, pow_int, neg_int, lt_int', le_int', gt_int', ge_int', is_non, isn_non, is_bl, isn_bl, isNon_int, isNon_str, isNon_tup, isNon_bl, isNon_non, len_str, len_tup, len_lst, len_frl, len_dK, int_int, int_bl, abs_int, sum_lst, any_lst, all_lst, max2_int, min2_int, tuple_lst, tuple_tup, list_lst, list_tup, ix_tup, ix_lst, ix_frl, ix_frt, sl_tup, sl_lst, tg_d, tg_fr, tg_loc, cellV_lst, cellV_dK, cellV_dT, eq_int, ne_int, eq_bl, ne_bl, in_ints_tup, in_ints_lst, atI_0, atI_1, atI_2, atI_3, st_len, st_at, st_at1, st_set, st_set1, st_take, st_take1, st_all, st_lt, List.map_cons, List.map_nil, List.length_cons, List.length_nil, List.length_map, List.getElem?_cons_zero, List.getElem?_cons_succ, List.set_cons_zero, List.set_cons_succ, List.cons_append, List.nil_append, List.append_nil, List.replicate_succ, List.replicate_zero, List.append_assoc, Nat.reduceAdd, Nat.reduceSub, Nat.reduceLT, Nat.zero_add, Nat.add_zero, true_implies, false_implies, and_true, true_and, implies_true, List.length_set, take_set, List.getElem?_set_self, Bool.not_true, decide_true, decide_false, Bool.not_false, decide_eq_true_eq, decide_eq_false_iff_not, Bool.true_eq_false, Bool.false_eq_true, Option.some.injEq, exists_eq_left, exists_eq_left', R.d.injEq, D.int.injEq, D.bl.injEq, if_true, if_false, reduceIte, not_true_eq_false, not_false_eq_true, List.take_zero, List.take_succ_cons, and_self, Option.map_some, Bool.false_xor, Bool.and_self, Bool.true_and, Bool.and_true, Bool.true_xor, hv, hn]
    exact ⟨sm_nat (by omega), by rw [Int.toNat_natCast, rg0], ⟨⟨_, _, _, hP, b0⟩, st0⟩, fun _ _ _ _ => trivial⟩
  · rintro done i rest e s he ⟨⟨e1, x, y, p1, rfl⟩, rfl⟩
    obtain ⟨hi1, hi2⟩ := range_at he
    simp only [w_seq, KS_nx, KS_rt, KS_bk, KS_ct, w_next, w_set, w_setM, w_drop, w_ret, w_retN, w_brk, w_cnt, w_if, w_asg, w_parB, w_parC, w_N, w_N0, w_N1, w_NT, KF_nx, KF_rt, w_fun, fin_d, fin_fr, w_fin, WE_some, WT_some, WA_some, WI_some, WS_some, WV_d, WV_fr, WV_loc, WVT_d, WVT_fr, WB_bl, WF_fr, WG_some, WO_some, WO_ite, WO_map, w_var, w_C, w_op, w_un, w_test, w_chain, w_and, w_or, w_not, w_VT, w_ifE, w_A0, w_A1, w_call, w_blt, w_curs0, w_curs1, w_vals0, w_vals1, w_tup, w_lst, w_yes, WL_loc, w_app, w_pop, w_rev, w_put, w_getI, w_isi, w_p0, w_p1, w_sl, w_lstR, w_tupR, w_newK, w_newT, KL_nx, KL_ct, KL_bk, KL_rt, wipeE, clr_nil, clr_cons, c1_none, c1_d, c1_loc, WC_z, WC_s, lt_a1, lt_a2, lt_a3, st_take2, put_lst, put_dK, kit_bb, kit_ib, kit_ii, kit_sb, kit_si, kit_ss, kit_tb, kit_ti, kit_ts, kit_tt, ty_int, ty_bl, ty_str, ty_tup, add_int, add_str, add_tup, add_lst, sub_int, mul_int', mul_lst, fdiv_int, mod_int, pow_int, neg_int, lt_int', le_int', gt_int', ge_int', is_non, isn_non, is_bl, isn_bl, isNon_int, isNon_str, isNon_tup, isNon_bl, isNon_non, len_str, len_tup, len_lst, len_frl, len_dK, int_int, int_bl, abs_int, sum_lst, any_lst, all_lst, max2_int, min2_int, tuple_lst, tuple_tup, list_lst, list_tup, ix_tup, ix_lst, ix_frl, ix_frt, sl_tup, sl_lst, tg_d, tg_fr, tg_loc, cellV_lst, cellV_dK, cellV_dT, eq_int, ne_int, eq_bl, ne_bl, in_ints_tup, in_ints_lst, atI_0, atI_1, atI_2, atI_3, st_len, st_at, st_at1, st_set, st_set1, st_take, st_take1, st_all, st_lt, List.map_cons, List.map_nil, List.length_cons, List.length_nil, List.length_map, List.getElem?_cons_zero, List.getElem?_cons_succ, List.set_cons_zero, List.set_cons_succ, List.cons_append, List.nil_append, List.append_nil, List.replicate_succ, List.replicate_zero, List.append_assoc, Nat.reduceAdd, Nat.reduceSub, Nat.reduceLT, Nat.zero_add, Nat.add_zero, true_implies, false_implies, and_true, true_and, implies_true, List.length_set, take_set, List.getElem?_set_self, Bool.not_true, decide_true, decide_false, Bool.not_false, decide_eq_true_eq, decide_eq_false_iff_not, Bool.true_eq_false, Bool.false_eq_true, Option.some.injEq, exists_eq_left, exists_eq_left', R.d.injEq, D.int.injEq, D.bl.injEq, if_true, if_false, reduceIte, not_true_eq_false, not_false_eq_true, List.take_zero, List.take_succ_cons, and_self, Option.map_some, Bool.false_xor, Bool.and_self, Bool.true_and, Bool.and_true, Bool.true_xor, set_set2 hab]
    generalize hacc : done.flatMap (pairIn n cond) = acc
    have hlen : acc.length ≤ 999 * 999 := by
      rw [← hacc]
      refine Nat.le_trans (flat_len _ n (pairIn_len _ _) _) ?_
      exact Nat.mul_le_mul (by omega) (by omega)
    refine w_for (n := s0.length) (fun j : Nat => D.int ((i + 1 + j : Nat) : Int)) (List.range (n - (i + 1))) (fun done2 e s => (∃ e' y, P e' ∧ e = (e'.set a (some (.d (.int (i : Int))))).set b y) ∧ s = s0.set c (.lst ((acc ++ (done2.filter fun j => cond i (i + 1 + j)).map fun j => (i, i + 1 + j)).map encP))) (wi_rng2 ?_) ?_ ?_
    · simp only [w_seq, KS_nx, KS_rt, KS_bk, KS_ct, w_next, w_set, w_setM, w_drop, w_ret, w_retN, w_brk, w_cnt, w_if, w_asg, w_parB, w_parC, w_N, w_N0, w_N1, w_NT, KF_nx, KF_rt, w_fun, fin_d, fin_fr, w_fin, WE_some, WT_some, WA_some, WI_some, WS_some, WV_d, WV_fr, WV_loc, WVT_d, WVT_fr, WB_bl, WF_fr, WG_some, WO_some, WO_ite, WO_map, w_var, w_C, w_op, w_un, w_test, w_chain, w_and, w_or, w_not, w_VT, w_ifE, w_A0, w_A1, w_call, w_blt, w_curs0, w_curs1, w_vals0, w_vals1, w_tup, w_lst, w_yes, WL_loc, w_app, w_pop, w_rev, w_put, w_getI, w_isi, w_p0, w_p1, w_sl, w_lstR, w_tupR, w_newK, w_newT, KL_nx, KL_ct, KL_bk, KL_rt, wipeE, clr_nil, clr_cons, c1_none, c1_d, c1_loc, WC_z, WC_s, lt_a1, lt_a2, lt_a3, st_take2, put_lst, put_dK, kit_bb, kit_ib, kit_ii, kit_sb, kit_si, kit_ss, kit_tb, kit_ti, kit_ts, kit_tt, ty_int, ty_bl, ty_str, ty_tup, add_int, add_str, add_tup, add_lst, sub_int, mul_int', mul_lst, fdiv_int, mod_int, pow_int, neg_int, lt_int', le_int', gt_int', ge_int', is_non, isn_non, is_bl, isn_bl, isNon_int, isNon_str, isNon_tup, isNon_bl, isNon_non, len_str, len_tup, len_lst, len_frl, len_dK, int_int, int_bl, abs_int, sum_lst, any_lst, all_lst, max2_int, min2_int, tuple_lst, tuple_tup, list_lst, list_tup, ix_tup, ix_lst, ix_frl, ix_frt, sl_tup, sl_lst, tg_d, tg_fr, tg_loc, cellV_lst, cellV_dK, cellV_dT, eq_int, ne_int, eq_bl, ne_bl, in_ints_tup, in_ints_lst, atI_0, atI_1, atI_2, atI_3, st_len, st_at, st_at1, st_set, st_set1, st_take, st_take1, st_all, st_lt, List.map_cons, List.map_nil, List.length_cons, List.length_nil, List.length_map, List.getElem?_cons_zero, List.getElem?_cons_succ, List.set_cons_zero, List.set_cons_succ, List.cons_append, List.nil_append, List.append_nil, List.replicate_succ, List.replicate_zero, List.append_assoc, Nat.reduceAdd, Nat.reduceSub, Nat.reduceLT, Nat.zero_add, Nat.add_zero, true_implies, false_implies, and_true, true_and, implies_true, List.length_set, take_set, List.getElem?_set_self, Bool.not_true, decide_true, decide_false, Bool.not_false, decide_eq_true_eq, decide_eq_false_iff_not, Bool.true_eq_false, Bool.false_eq_true, Option.some.injEq, exists_eq_left, exists_eq_left', R.d.injEq, D.int.injEq, D.bl.injEq, if_true, if_false, reduceIte, not_true_eq_false, not_false_eq_true, List.take_zero, List.take_succ_cons, and_self, Option.map_some, Bool.false_xor, Bool.and_self, Bool.true_and, Bool.and_true, Bool.true_xor, gv p1, ga p1, hn]
      exact ⟨sm_int (by omega) (by omega), sm_nat (by omega), rgN, ⟨⟨_, _, p1, rfl⟩, by simp⟩, fun _ _ _ _ => trivial⟩
    · rintro done2 j rest2 e s he2 ⟨⟨e2, y, p2, rfl⟩, rfl⟩
      obtain ⟨hj1, hj2⟩ := range_at he2
      have hl2 : ((acc ++ (done2.filter fun j => cond i (i + 1 + j)).map fun j => (i, i + 1 + j)).map encP).length < sizeLine := by
        refine lt_size ?_
        rw [List.length_map, List.length_append, List.length_map]
        have := List.length_filter_le (fun j => cond i (i + 1 + j)) done2
        omega
      generalize hcell : (acc ++ (done2.filter fun j => cond i (i + 1 + j)).map fun j => (i, i + 1 + j)).map encP = cell at hl2 ⊢
      simp only [w_seq, KS_nx, KS_rt, KS_bk, KS_ct, w_next, w_set, w_setM, w_drop, w_ret, w_retN, w_brk, w_cnt, w_if, w_asg, w_parB, w_parC, w_N, w_N0, w_N1, w_NT, KF_nx, KF_rt, w_fun, fin_d, fin_fr, w_fin, WE_some, WT_some, WA_some, WI_some, WS_some, WV_d, WV_fr, WV_loc, WVT_d, WVT_fr, WB_bl, WF_fr, WG_some, WO_some, WO_ite, WO_map, w_var, w_C, w_op, w_un, w_test, w_chain, w_and, w_or, w_not, w_VT, w_ifE, w_A0, w_A1, w_call, w_blt, w_curs0, w_curs1, w_vals0, w_vals1, w_tup, w_lst, w_yes, WL_loc, w_app, w_pop, w_rev, w_put, w_getI, w_isi, w_p0, w_p1, w_sl, w_lstR, w_tupR, w_newK, w_newT, KL_nx, KL_ct, KL_bk, KL_rt, wipeE, clr_nil, clr_cons, c1_none, c1_d, c1_loc, WC_z, WC_s, lt_a1, lt_a2, lt_a3, st_take2, put_lst, put_dK, kit_bb, kit_ib, kit_ii, kit_sb, kit_si, kit_ss, kit_tb, kit_ti, kit_ts, kit_tt, ty_int, ty_bl, ty_str, ty_tup, add_int, add_str, add_tup, add_lst, sub_int, mul_int', mul_lst, fdiv_int, mod_int, pow_int, neg_int, lt_int', le_int', gt_int', ge_int', is_non, isn_non, is_bl, isn_bl, isNon_int, isNon_str, isNon_tup, isNon_bl, isNon_non, len_str, len_tup, len_lst, len_frl, len_dK, int_int, int_bl, abs_int, sum_lst, any_lst, all_lst, max2_int, min2_int, tuple_lst, tuple_tup, list_lst, list_tup, ix_tup, ix_lst, ix_frl, ix_frt, sl_tup, sl_lst, tg_d, tg_fr, tg_loc, cellV_lst, cellV_dK, cellV_dT, eq_int, ne_int, eq_bl, ne_bl, in_ints_tup, in_ints_lst, atI_0, atI_1, atI_2, atI_3, st_len, st_at, st_at1, st_set, st_set1, st_take, st_take1, st_all, st_lt, List.map_cons, List.map_nil, List.length_cons, List.length_nil, List.length_map, List.getElem?_cons_zero, List.getElem?_cons_succ, List.set_cons_zero, List.set_cons_succ, List.cons_append, List.nil_append, List.append_nil, List.replicate_succ, List.replicate_zero, List.append_assoc, Nat.reduceAdd, Nat.reduceSub, Nat.reduceLT, Nat.zero_add, Nat.add_zero, true_implies, false_implies, and_true, true_and, implies_true, List.length_set, take_set, List.getElem?_set_self, Bool.not_true, decide_true, decide_false, Bool.not_false, decide_eq_true_eq, decide_eq_false_iff_not, Bool.true_eq_false, Bool.false_eq_true, Option.some.injEq, exists_eq_left, exists_eq_left', R.d.injEq, D.int.injEq, D.bl.injEq, if_true, if_false, reduceIte, not_true_eq_false, not_false_eq_true, List.take_zero, List.take_succ_cons, and_self, Option.map_some, Bool.false_xor, Bool.and_self, Bool.true_and, Bool.and_true, Bool.true_xor, List.set_set]
      obtain ⟨r, s', h1, rfl, rfl⟩ := hT e2 i (i + 1 + j) (s0.set c (.lst cell)) p2 hi2 (by omega) (List.length_set ..) fun k hk => List.getElem?_set_ne (Ne.symm hk)
      refine ⟨_, _, h1, fun ht => ?_, fun ht => ?_⟩
      · have hw : (s0.set c (.lst cell))[c]? = some (.lst cell) := List.getElem?_set_self hcl
        simp only [w_seq, KS_nx, KS_rt, KS_bk, KS_ct, w_next, w_set, w_setM, w_drop, w_ret, w_retN, w_brk, w_cnt, w_if, w_asg, w_parB, w_parC, w_N, w_N0, w_N1, w_NT, KF_nx, KF_rt, w_fun, fin_d, fin_fr, w_fin, WE_some, WT_some, WA_some, WI_some, WS_some, WV_d, WV_fr, WV_loc, WVT_d, WVT_fr, WB_bl, WF_fr, WG_some, WO_some, WO_ite, WO_map, w_var, w_C, w_op, w_un, w_test, w_chain, w_and, w_or, w_not, w_VT, w_ifE, w_A0, w_A1, w_call, w_blt, w_curs0, w_curs1, w_vals0, w_vals1, w_tup, w_lst, w_yes, WL_loc, w_app, w_pop, w_rev, w_put, w_getI, w_isi, w_p0, w_p1, w_sl, w_lstR, w_tupR, w_newK, w_newT, KL_nx, KL_ct, KL_bk, KL_rt, wipeE, clr_nil, clr_cons, c1_none, c1_d, c1_loc, WC_z, WC_s, lt_a1, lt_a2, lt_a3, st_take2, put_lst, put_dK, kit_bb, kit_ib, kit_ii, kit_sb, kit_si, kit_ss, kit_tb, kit_ti, kit_ts, kit_tt, ty_int, ty_bl, ty_str, ty_tup, add_int, add_str, add_tup, add_lst, sub_int, mul_int', mul_lst, fdiv_int, mod_int, pow_int, neg_int, lt_int', le_int', gt_int', ge_int', is_non, isn_non, is_bl, isn_bl, isNon_int, isNon_str, isNon_tup, isNon_bl, isNon_non, len_str, len_tup, len_lst, len_frl, len_dK, int_int, int_bl, abs_int, sum_lst, any_lst, all_lst, max2_int, min2_int, tuple_lst, tuple_tup, list_lst, list_tup, ix_tup, ix_lst, ix_frl, ix_frt, sl_tup, sl_lst, tg_d, tg_fr, tg_loc, cellV_lst, cellV_dK, cellV_dT, eq_int, ne_int, eq_bl, ne_bl, in_ints_tup, in_ints_lst, atI_0, atI_1, atI_2, atI_3, st_len, st_at, st_at1, st_set, st_set1, st_take, st_take1, st_all, st_lt, List.map_cons, List.map_nil, List.length_cons, List.length_nil, List.length_map, List.getElem?_cons_zero, List.getElem?_cons_succ, List.set_cons_zero, List.set_cons_succ, List.cons_append, List.nil_append, List.append_nil, List.replicate_succ, List.replicate_zero, List.append_assoc, Nat.reduceAdd, Nat.reduceSub, Nat.reduceLT, Nat.zero_add, Nat.add_zero, true_implies, false_implies, and_true, true_and, implies_true, List.length_set, take_set, List.getElem?_set_self, Bool.not_true, decide_true, decide_false, Bool.not_false, decide_eq_true_eq, decide_eq_false_iff_not, Bool.true_eq_false, Bool.false_eq_true, Option.some.injEq, exists_eq_left, exists_eq_left', R.d.injEq, D.int.injEq, D.bl.injEq, if_true, if_false, reduceIte, not_true_eq_false, not_false_eq_true, List.take_zero, List.take_succ_cons, and_self, Option.map_some, Bool.false_xor, Bool.and_self, Bool.true_and, Bool.and_true, Bool.true_xor, gf p2, ga p2, gb p2, WC_of hw, List.set_set]
        obtain ⟨e3, p3, h3⟩ := hclr e2 (some (.d (.int (i : Int)))) (some (.d (.int ((i + 1 + j : Nat) : Int)))) (s0.set c (.lst (cell ++ [.tup [.int i, .int (i + 1 + j : Nat)]]))) p2 (List.length_set ..)
        refine ⟨fits_small (by decide), hl2, ⟨e3, c1 s0.length (s0.set c (.lst (cell ++ [.tup [.int i, .int (i + 1 + j : Nat)]]))) (some (.d (.int ((i + 1 + j : Nat) : Int)))), p3, ?_⟩, ?_⟩
        · rw [h3]; rfl
        · rw [← hcell]
          simp [List.filter_append, List.filter_cons, ht, encP]
      · simp only [w_seq, KS_nx, KS_rt, KS_bk, KS_ct, w_next, w_set, w_setM, w_drop, w_ret, w_retN, w_brk, w_cnt, w_if, w_asg, w_parB, w_parC, w_N, w_N0, w_N1, w_NT, KF_nx, KF_rt, w_fun, fin_d, fin_fr, w_fin, WE_some, WT_some, WA_some, WI_some, WS_some, WV_d, WV_fr, WV_loc, WVT_d, WVT_fr, WB_bl, WF_fr, WG_some, WO_some, WO_ite, WO_map, w_var, w_C, w_op, w_un, w_test, w_chain, w_and, w_or, w_not, w_VT, w_ifE, w_A0, w_A1, w_call, w_blt, w_curs0, w_curs1, w_vals0, w_vals1, w_tup, w_lst, w_yes, WL_loc, w_app, w_pop, w_rev, w_put, w_getI, w_isi, w_p0, w_p1, w_sl, w_lstR, w_tupR, w_newK, w_newT, KL_nx, KL_ct, KL_bk, KL_rt, wipeE, clr_nil, clr_cons, c1_none, c1_d, c1_loc, WC_z, WC_s, lt_a1, lt_a2, lt_a3, st_take2, put_lst, put_dK, kit_bb, kit_ib, kit_ii, kit_sb, kit_si, kit_ss, kit_tb, kit_ti, kit_ts, kit_tt, ty_int, ty_bl, ty_str, ty_tup, add_int, add_str, add_tup, add_lst, sub_int, mul_int', mul_lst, fdiv_int, mod_int, pow_int, neg_int, lt_int', le_int', gt_int', ge_int', is_non, isn_non, is_bl, isn_bl, isNon_int, isNon_str, isNon_tup, isNon_bl, isNon_non, len_str, len_tup, len_lst, len_frl, len_dK, int_int, int_bl, abs_int, sum_lst, any_lst, all_lst, max2_int, min2_int, tuple_lst, tuple_tup, list_lst, list_tup, ix_tup, ix_lst, ix_frl, ix_frt, sl_tup, sl_lst, tg_d, tg_fr, tg_loc, cellV_lst, cellV_dK, cellV_dT, eq_int, ne_int, eq_bl, ne_bl, in_ints_tup, in_ints_lst, atI_0, atI_1, atI_2, atI_3, st_len, st_at, st_at1, st_set, st_set1, st_take, st_take1, st_all, st_lt, List.map_cons, List.map_nil, List.length_cons, List.length_nil, List.length_map, List.getElem?_cons_zero, List.getElem?_cons_succ, List.set_cons_zero, List.set_cons_succ, List.cons_append, List.nil_append, List.append_nil, List.replicate_succ, List.replicate_zero, List.append_assoc, Nat.reduceAdd, Nat.reduceSub, Nat.reduceLT, Nat.zero_add, Nat.add_zero, true_implies, false_implies, and_true, true_and, implies_true, List.length_set, take_set, List.getElem?_set_self, Bool.not_true, decide_true, decide_false, Bool.not_false, decide_eq_true_eq, decide_eq_false_iff_not, Bool.true_eq_false, Bool.false_eq_true, Option.some.injEq, exists_eq_left, exists_eq_left', R.d.injEq, D.int.injEq, D.bl.injEq, if_true, if_false, reduceIte, not_true_eq_false, not_false_eq_true, List.take_zero, List.take_succ_cons, and_self, Option.map_some, Bool.false_xor, Bool.and_self, Bool.true_and, Bool.and_true, Bool.true_xor]
        obtain ⟨e3, p3, h3⟩ := hclr e2 (some (.d (.int (i : Int)))) (some (.d (.int ((i + 1 + j : Nat) : Int)))) (s0.set c (.lst cell)) p2 (List.length_set ..)
        refine ⟨⟨e3, c1 s0.length (s0.set c (.lst cell)) (some (.d (.int ((i + 1 + j : Nat) : Int)))), p3, ?_⟩, ?_⟩
        · rw [h3]; rfl
        · rw [← hcell]
          simp [List.filter_append, List.filter_cons, ht]
    · rintro e s ⟨⟨e2, y, p2, rfl⟩, rfl⟩
      simp only [w_seq, KS_nx, KS_rt, KS_bk, KS_ct, w_next, w_set, w_setM, w_drop, w_ret, w_retN, w_brk, w_cnt, w_if, w_asg, w_parB, w_parC, w_N, w_N0, w_N1, w_NT, KF_nx, KF_rt, w_fun, fin_d, fin_fr, w_fin, WE_some, WT_some, WA_some, WI_some, WS_some, WV_d, WV_fr, WV_loc, WVT_d, WVT_fr, WB_bl, WF_fr, WG_some, WO_some, WO_ite, WO_map, w_var, w_C, w_op, w_un, w_test, w_chain, w_and, w_or, w_not, w_VT, w_ifE, w_A0, w_A1, w_call, w_blt, w_curs0, w_curs1, w_vals0, w_vals1, w_tup, w_lst, w_yes, WL_loc, w_app, w_pop, w_rev, w_put, w_getI, w_isi, w_p0, w_p1, w_sl, w_lstR, w_tupR, w_newK, w_newT, KL_nx, KL_ct, KL_bk, KL_rt, wipeE, clr_nil, clr_cons, c1_none, c1_d, c1_loc, WC_z, WC_s, lt_a1, lt_a2, lt_a3, st_take2, put_lst, put_dK, kit_bb, kit_ib, kit_ii, kit_sb, kit_si, kit_ss, kit_tb, kit_ti, kit_ts, kit_tt, ty_int, ty_bl, ty_str, ty_tup, add_int, add_str, add_tup, add_lst, sub_int, mul_int', mul_lst, fdiv_int, mod_int, pow_int, neg_int, lt_int', le_int', gt_int', ge_int', is_non, isn_non, is_bl, isn_bl, isNon_int, isNon_str, isNon_tup, isNon_bl, isNon_non, len_str, len_tup, len_lst, len_frl, len_dK, int_int, int_bl, abs_int, sum_lst, any_lst, all_lst, max2_int, min2_int, tuple_lst, tuple_tup, list_lst, list_tup, ix_tup, ix_lst, ix_frl, ix_frt, sl_tup, sl_lst, tg_d, tg_fr, tg_loc, cellV_lst, cellV_dK, cellV_dT, eq_int, ne_int, eq_bl, ne_bl, in_ints_tup, in_ints_lst, atI_0, atI_1, atI_2, atI_3, st_len, st_at, st_at1, st_set, st_set1, st_take, st_take1, st_all, st_lt, List.map_cons, List.map_nil, List.length_cons, List.length_nil, List.length_map, List.getElem?_cons_zero, List.getElem?_cons_succ, List.set_cons_zero, List.set_cons_succ, List.cons_append, List.nil_append, List.append_nil, List.replicate_succ, List.replicate_zero, List.append_assoc, Nat.reduceAdd, Nat.reduceSub, Nat.reduceLT, Nat.zero_add, Nat.add_zero, true_implies, false_implies, and_true, true_and, implies_true, List.length_set, take_set, List.getElem?_set_self, Bool.not_true, decide_true, decide_false, Bool.not_false, decide_eq_true_eq, decide_eq_false_iff_not, Bool.true_eq_false, Bool.false_eq_true, Option.some.injEq, exists_eq_left, exists_eq_left', R.d.injEq, D.int.injEq, D.bl.injEq, if_true, if_false, reduceIte, not_true_eq_false, not_false_eq_true, List.take_zero, List.take_succ_cons, and_self, Option.map_some, Bool.false_xor, Bool.and_self, Bool.true_and, Bool.and_true, Bool.true_xor]
      obtain ⟨e3, p3, h3⟩ := hclr e2 (some (.d (.int (i : Int)))) y (s0.set c (.lst ((acc ++ ((List.range (n - (i + 1))).filter fun j => cond i (i + 1 + j)).map fun j => (i, i + 1 + j)).map encP))) p2 (List.length_set ..)
      refine ⟨⟨e3, _, _, p3, h3⟩, ?_⟩
      rw [List.flatMap_append, hacc]
      simp [pairIn]
  · rintro e s ⟨⟨e2, x, y, p2, rfl⟩, rfl⟩
    exact hQ e2 x y p2
end DL

set_option Elab.async false
set_option linter.all false
set_option maxRecDepth 100000
set_option maxHeartbeats 4000000
/-! dicts as rows of pairs -/
namespace DL
open PySem L2
section
variable {κ κ' α β : Type} [DecidableEq κ] [DecidableEq κ']
theorem lookA_nil {k : κ} : lookA ([] : List (κ × α)) k = none := rfl
theorem lookA_cons {p : κ × α} {l : List (κ × α)} {k : κ} : lookA (p :: l) k = if p.1 = k then some p.2 else lookA l k := by
  unfold lookA
  rw [List.find?_cons]
  by_cases h : p.1 = k
  · rw [if_pos h, decide_eq_true h]; rfl
  · rw [if_neg h, decide_eq_false h]
theorem putA_cons {p : κ × α} {l : List (κ × α)} {k : κ} {v : α} : putA (p :: l) k v = if p.1 = k then (p.1, v) :: l.map (fun q => if q.1 = k then (q.1, v) else q) else p :: putA l k v := by
  unfold putA
  rw [List.any_cons]
  by_cases h : p.1 = k
  · rw [if_pos h, decide_eq_true h, Bool.true_or, if_pos rfl, List.map_cons, if_pos h]
  · rw [if_neg h, decide_eq_false h, Bool.false_or, List.map_cons, if_neg h]
    split <;> rfl
theorem lookA_map_put {l : List (κ × α)} {k j : κ} {v : α} : lookA (l.map fun q => if q.1 = k then (q.1, v) else q) j = if j = k then (lookA l j).map fun _ => v else lookA l j := by
  induction l with
  | nil => rw [List.map_nil, lookA_nil]; split <;> rfl
  | cons p l ih =>
    rw [List.map_cons, lookA_cons, lookA_cons, ih]
    by_cases h : p.1 = k
    · rw [if_pos h]
      by_cases h2 : p.1 = j
      · rw [if_pos h2, if_pos h2, if_pos (h2.symm.trans h)]; rfl
      · rw [if_neg h2, if_neg h2]
    · rw [if_neg h]
      by_cases h2 : p.1 = j
      · rw [if_pos h2, if_pos h2, if_neg (fun e => h (h2.trans e))]
      · rw [if_neg h2, if_neg h2]
theorem lookA_put {l : List (κ × α)} {k j : κ} {v : α} : lookA (putA l k v) j = if j = k then some v else lookA l j := by
  induction l with
  | nil =>
    unfold putA
    rw [List.any_nil, if_neg Bool.false_ne_true, List.nil_append, lookA_cons, lookA_nil]
    by_cases h : k = j
    · rw [if_pos h, if_pos h.symm]
    · rw [if_neg h, if_neg (Ne.symm h)]
  | cons p l ih =>
    rw [putA_cons, lookA_cons]
    by_cases h : p.1 = k
    · rw [if_pos h, lookA_cons]
      by_cases h2 : p.1 = j
      · rw [if_pos h2, if_pos (h2.symm.trans h)]
      · rw [if_neg h2, if_neg h2, lookA_map_put]
        by_cases h3 : j = k
        · exact absurd (h.trans h3.symm) h2
        · rw [if_neg h3, if_neg h3]
    · rw [if_neg h, lookA_cons, ih]
      by_cases h2 : p.1 = j
      · rw [if_pos h2, if_pos h2, if_neg (fun e => h (h2.trans e))]
      · rw [if_neg h2, if_neg h2]
theorem keys_map_put {l : List (κ × α)} {k : κ} {v : α} : (l.map fun q => if q.1 = k then (q.1, v) else q).map (·.1) = l.map (·.1) := by
  rw [List.map_map]
  refine List.map_congr_left fun q _ => ?_
  show (if q.1 = k then (q.1, v) else q).1 = q.1
  split <;> rfl
theorem keys_put {l : List (κ × α)} {k : κ} {v : α} : (putA l k v).map (·.1) = if k ∈ l.map (·.1) then l.map (·.1) else l.map (·.1) ++ [k] := by
  unfold putA
  by_cases h : k ∈ l.map (·.1)
  · have : (l.any fun kv => decide (kv.1 = k)) = true := by
      obtain ⟨p, hp, e⟩ := List.mem_map.mp h
      exact List.any_eq_true.mpr ⟨p, hp, decide_eq_true e⟩
    rw [if_pos this, if_pos h, keys_map_put]
  · have : ¬ (l.any fun kv => decide (kv.1 = k)) = true := fun q => by
      obtain ⟨p, hp, e⟩ := List.any_eq_true.mp q
      exact h (List.mem_map.mpr ⟨p, hp, of_decide_eq_true e⟩)
    rw [if_neg this, if_neg h, List.map_append]; rfl
theorem nodup_put {l : List (κ × α)} {k : κ} {v : α} (h : (l.map (·.1)).Nodup) : ((putA l k v).map (·.1)).Nodup := by
  rw [keys_put]
  split
  · exact h
  · rename_i hk
    exact List.nodup_append.mpr ⟨h, by simp, fun a ha b hb => by simp at hb; rw [hb]; exact fun e => hk (e ▸ ha)⟩
theorem mem_put {l : List (κ × α)} {k j : κ} {v : α} : j ∈ (putA l k v).map (·.1) ↔ j = k ∨ j ∈ l.map (·.1) := by
  rw [keys_put]
  split
  · rename_i hk
    exact ⟨.inr, fun h => h.elim (fun e => e ▸ hk) id⟩
  · rw [List.mem_append, List.mem_singleton]; exact Or.comm
theorem len_put {l : List (κ × α)} {k : κ} {v : α} : (putA l k v).length ≤ l.length + 1 := by
  have := congrArg List.length (keys_put (l := l) (k := k) (v := v))
  rw [List.length_map] at this
  rw [this]
  split
  · rw [List.length_map]; omega
  · rw [List.length_append, List.length_map]; exact Nat.le_refl _
/-- a dict's pairs under other names -/
theorem lookA_enc (f : κ → κ') (g : α → β) (hf : ∀ a b, f a = f b → a = b) {l : List (κ × α)} {k : κ} : lookA (l.map fun p => (f p.1, g p.2)) (f k) = (lookA l k).map g := by
  induction l with
  | nil => rfl
  | cons p l ih =>
    rw [List.map_cons, lookA_cons, lookA_cons, ih]
    by_cases h : p.1 = k
    · rw [if_pos h, if_pos (congrArg f h)]; rfl
    · rw [if_neg h, if_neg (fun e => h (hf _ _ e))]
theorem putA_enc (f : κ → κ') (g : α → β) (hf : ∀ a b, f a = f b → a = b) {l : List (κ × α)} {k : κ} {v : α} : putA (l.map fun p => (f p.1, g p.2)) (f k) (g v) = (putA l k v).map fun p => (f p.1, g p.2) := by
  unfold putA
  have e : ((l.map fun p => (f p.1, g p.2)).any fun kv => decide (kv.1 = f k)) = l.any fun kv => decide (kv.1 = k) := by
    rw [List.any_map]
    congr 1
    funext p
    exact decide_eq_decide.mpr ⟨fun q => hf _ _ q, fun q => congrArg f q⟩
  rw [e]
  split
  · rw [List.map_map, List.map_map]
    refine List.map_congr_left fun p _ => ?_
    show (if f p.1 = f k then (f p.1, g v) else (f p.1, g p.2)) = (f (if p.1 = k then (p.1, v) else p).1, g (if p.1 = k then (p.1, v) else p).2)
    by_cases h : p.1 = k
    · rw [if_pos h, if_pos (congrArg f h)]
    · rw [if_neg h, if_neg (fun q => h (hf _ _ q))]
  · rw [List.map_append]; rfl
end
/-- a dict from texts to ints -/
def dSI (l : List (Str × Int)) : D := .dK (l.map fun p => ((Sum.inr p.1 : Key), D.int p.2))
/-- a dict from ints to ints -/
def dII (l : List (Int × Int)) : D := .dK (l.map fun p => ((Sum.inl p.1 : Key), D.int p.2))
theorem get_SI {l : List (Str × Int)} {k : Str} : dget (dSI l) (.str k) = some ((lookA l k).map D.int) := by
  show some (lookA _ _) = _
  exact congrArg some (lookA_enc (fun x : Str => (Sum.inr x : Key)) D.int fun a b h => Sum.inr.inj h)
theorem put_SI {l : List (Str × Int)} {k : Str} {v : Int} (h : l.length < 16000000) : putC (dSI l) (.str k) (.int v) = some (dSI (putA l k v)) := by
  show (if (l.map _).length < sizeLine then some (D.dK (putA _ _ _)) else none) = _
  rw [if_pos (by rw [List.length_map]; exact lt_size h), putA_enc (fun x : Str => (Sum.inr x : Key)) D.int fun a b h => Sum.inr.inj h]
  rfl
theorem get_II {l : List (Int × Int)} {k : Int} : dget (dII l) (.int k) = some ((lookA l k).map D.int) := by
  show some (lookA _ _) = _
  exact congrArg some (lookA_enc (fun x : Int => (Sum.inl x : Key)) D.int fun a b h => Sum.inl.inj h)
theorem put_II {l : List (Int × Int)} {k : Int} {v : Int} (h : l.length < 16000000) : putC (dII l) (.int k) (.int v) = some (dII (putA l k v)) := by
  show (if (l.map _).length < sizeLine then some (D.dK (putA _ _ _)) else none) = _
  rw [if_pos (by rw [List.length_map]; exact lt_size h), putA_enc (fun x : Int => (Sum.inl x : Key)) D.int fun a b h => Sum.inl.inj h]
  rfl
theorem isd_SI {l : List (Str × Int)} : isDict (dSI l) = true := rfl
theorem isd_II {l : List (Int × Int)} : isDict (dII l) = true := rfl
theorem cell_SI {l : List (Str × Int)} : cellV (some (dSI l)) = some (dSI l) := rfl
theorem cell_II {l : List (Int × Int)} : cellV (some (dII l)) = some (dII l) := rfl
theorem getD_int {o : Option Int} {i : Int} : (o.map D.int).getD (D.int i) = D.int (o.getD i) := by cases o <;> rfl
theorem new_SI : D.dK [] = dSI [] := rfl

/-! ### texts, sorted -/
noncomputable def leS (a b : Str) : Bool := leK (Sum.inr a) (Sum.inr b)
/-- the texts of a row, each once, upwards -/
noncomputable def sortS (xs : List Str) : List Str := (ddp xs).mergeSort leS
theorem srtK_map (xs : List Str) : (xs.map (Sum.inr : Str → Key)).mergeSort leK = (xs.mergeSort leS).map Sum.inr := (List.map_mergeSort (f := fun i : Str => (Sum.inr i : Key)) (r := leS) (s := leK) fun a _ b _ => rfl).symm
theorem srtK_strs (xs : List Str) : srtK (xs.map Sum.inr) = (sortS xs).map Sum.inr := by
  unfold srtK sortS
  rw [ddp_map fun a b h => Sum.inr.inj h, srtK_map]
theorem mem_sortS {xs : List Str} {k : Str} : k ∈ sortS xs ↔ k ∈ xs := (List.mergeSort_perm _ _).mem_iff.trans mem_ddp
theorem nodup_sortS (xs : List Str) : (sortS xs).Nodup := (List.mergeSort_perm _ _).nodup_iff.mpr (nodup_ddp _)
theorem len_sortS (xs : List Str) : (sortS xs).length ≤ xs.length := by
  unfold sortS
  rw [List.length_mergeSort]
  have : ∀ l : List Str, (ddp l).length ≤ l.length := by
    intro l
    induction l with
    | nil => exact Nat.le_refl _
    | cons x l ih =>
      unfold ddp
      split
      · rw [List.length_cons]; omega
      · rw [List.length_cons, List.length_cons]; omega
  exact this xs
theorem keyTs_strs {τ : Type} (f : τ → Str) : ∀ ts : List τ, keyTs (ts.map fun t => D.str (f t)) = some (ts.map fun t => (Sum.inr (f t) : Key))
  | [] => rfl
  | t :: ts => by rw [List.map_cons, keyTs, keyTs_strs f ts]; rfl
theorem oneK_strs {τ : Type} (f : τ → Str) (ts : List τ) : oneK (ts.map fun t => (Sum.inr (f t) : Key)) = true := by
  cases ts with
  | nil => rfl
  | cons t ts => rw [List.map_cons, oneK]; simp
theorem kD_strs (ns : List Str) : (ns.map (Sum.inr : Str → Key)).map kD = ns.map D.str := by rw [List.map_map]; rfl
theorem ss_strs {τ : Type} {f : τ → Str} {ts : List τ} (h : ts.length < 4000) : opSS (.lst (ts.map fun t => D.str (f t))) = some (.fr (.lst ((sortS (ts.map f)).map D.str))) := by
  unfold opSS
  dsimp only
  rw [keyTs_strs]
  dsimp only
  rw [if_pos ⟨by rw [List.length_map]; unfold scanBound; omega, oneK_strs f ts⟩]
  rw [show (ts.map fun t => (Sum.inr (f t) : Key)) = (ts.map f).map Sum.inr from by rw [List.map_map]; rfl, srtK_strs, kD_strs]
/-- sorted(d), each key once -/
theorem sorted_SI {l : List (Str × Int)} {xs : List Str} (nd : (l.map (·.1)).Nodup) (h : ∀ k, k ∈ l.map (·.1) ↔ k ∈ xs) : opSorted [dSI l] = some (.fr (.lst ((sortS xs).map D.str))) := by
  unfold opSorted dSI
  dsimp only
  have e : ((l.map fun p => ((Sum.inr p.1 : Key), D.int p.2)).map (·.1)) = (l.map (·.1)).map Sum.inr := by rw [List.map_map, List.map_map]; rfl
  rw [e, if_pos (by have := oneK_strs (fun x : Str => x) (l.map (·.1)); exact this), srtK_map]
  rw [kD_strs]
  congr 4
  unfold sortS
  exact perm_ord (le := leS) (fun a b h1 h2 => Sum.inr.inj (leK_anti h1 h2)) ((List.mergeSort_perm _ _).trans (((List.perm_ext_iff_of_nodup nd (nodup_ddp xs)).mpr fun k => (h k).trans mem_ddp.symm).trans (List.mergeSort_perm _ _).symm))
    (List.pairwise_mergeSort (fun a b c h1 h2 => leK_tot.trans (Sum.inr a) (Sum.inr b) (Sum.inr c) h1 h2) (fun a b => by rcases leK_tot.total (Sum.inr a) (Sum.inr b) with h | h <;> simp [leS, h]) _)
    (List.pairwise_mergeSort (fun a b c h1 h2 => leK_tot.trans (Sum.inr a) (Sum.inr b) (Sum.inr c) h1 h2) (fun a b => by rcases leK_tot.total (Sum.inr a) (Sum.inr b) with h | h <;> simp [leS, h]) _)
theorem look_mem {κ α : Type} [DecidableEq κ] {l : List (κ × α)} {k : κ} (h : k ∈ l.map (·.1)) : ∃ v, lookA l k = some v := by
  induction l with
  | nil => simp at h
  | cons p l ih =>
    rw [lookA_cons]
    by_cases e : p.1 = k
    · exact ⟨_, if_pos e⟩
    · rw [if_neg e]
      rw [List.map_cons, List.mem_cons] at h
      exact ih (h.resolve_left fun q => e q.symm)
theorem ix_SI {l : List (Str × Int)} {k : Str} {v : Int} (h : lookA l k = some v) : opIx (dSI l) (.str k) = some (.d (.int v)) := by
  have e := get_SI (l := l) (k := k)
  rw [h] at e
  unfold dSI at e ⊢
  unfold opIx
  dsimp only
  rw [e]; rfl
end DL

set_option Elab.async false
set_option linter.all false
set_option maxRecDepth 100000
set_option maxHeartbeats 4000000
/-! dicts as sets of whole numbers -/
namespace DL
open PySem L2
/-- a dict whose keys are told by a row, all True -/
def dIB (l : List Int) : D := .dK (l.map fun k => ((Sum.inl k : Key), D.bl true))
def addI (l : List Int) (k : Int) : List Int := if k ∈ l then l else l ++ [k]
theorem put_IB {l : List Int} {k : Int} (h : l.length < 16000000) : putC (dIB l) (.int k) (.bl true) = some (dIB (addI l k)) := by
  show (if (l.map _).length < sizeLine then some (D.dK (putA _ _ _)) else none) = _
  rw [if_pos (by rw [List.length_map]; exact lt_size h)]
  congr 1
  unfold dIB addI putA
  have e : ((l.map fun k => ((Sum.inl k : Key), D.bl true)).any fun kv => decide (kv.1 = Sum.inl k)) = decide (k ∈ l) := by
    rw [List.any_map]
    refine Bool.eq_iff_iff.mpr ?_
    rw [List.any_eq_true, decide_eq_true_eq]
    constructor
    · rintro ⟨x, hx, q⟩
      have := Sum.inl.inj (of_decide_eq_true q)
      exact this ▸ hx
    · intro h
      exact ⟨k, h, decide_eq_true rfl⟩
  rw [e]
  by_cases h : k ∈ l
  · rw [if_pos (decide_eq_true h), if_pos h, List.map_map]
    congr 1
    refine List.map_congr_left fun x _ => ?_
    show (if (Sum.inl x : Key) = Sum.inl k then ((Sum.inl x : Key), D.bl true) else (Sum.inl x, .bl true)) = _
    split <;> rfl
  · rw [if_neg (by rw [decide_eq_false h]; exact Bool.false_ne_true), if_neg h, List.map_append]; rfl
theorem mem_addI {l : List Int} {k j : Int} : j ∈ addI l k ↔ j ∈ l ∨ j = k := by
  unfold addI
  split
  · rename_i h
    exact ⟨.inl, fun q => q.elim id fun e => e ▸ h⟩
  · simp
theorem nodup_addI {l : List Int} {k : Int} (h : l.Nodup) : (addI l k).Nodup := by
  unfold addI
  split
  · exact h
  · rename_i q
    exact List.nodup_append.mpr ⟨h, by simp, fun a ha b hb => by simp at hb; subst hb; exact fun e => q (e ▸ ha)⟩
theorem len_addI {l : List Int} {k : Int} : (addI l k).length ≤ l.length + 1 := by
  unfold addI
  split
  · omega
  · simp
theorem cell_IB {l : List Int} : cellV (some (dIB l)) = some (dIB l) := rfl
theorem isd_IB {l : List Int} : isDict (dIB l) = true := rfl
theorem new_IB : D.dK [] = dIB [] := rfl
theorem get_IB {l : List Int} {k : Int} : dget (dIB l) (.int k) = some (if k ∈ l then some (.bl true) else none) := by
  show some (lookA _ _) = _
  congr 1
  unfold lookA
  induction l with
  | nil => rfl
  | cons x l ih =>
    rw [List.map_cons, List.find?_cons]
    by_cases h : x = k
    · subst h
      rw [decide_eq_true rfl]
      simp
    · rw [decide_eq_false (fun q => h (Sum.inl.inj q)), ih]
      simp [Ne.symm h, List.mem_cons]
theorem sorted_IB {l xs : List Int} (nd : l.Nodup) (h : ∀ k, k ∈ l ↔ k ∈ xs) : opSorted [dIB l] = some (.fr (.lst ((sortI xs).map D.int))) := by
  unfold opSorted dIB
  dsimp only
  have e : ((l.map fun k => ((Sum.inl k : Key), D.bl true)).map (·.1)) = l.map Sum.inl := by rw [List.map_map]; rfl
  rw [e, if_pos (by have := oneK_ints (fun x : Int => x) l; exact this)]
  have e2 : (l.map (Sum.inl : Int → Key)).mergeSort leK = (sortI l).map Sum.inl := by
    unfold sortI
    rw [show ddp l = l from ?_]
    · exact (List.map_mergeSort (f := fun i : Int => (Sum.inl i : Key)) (r := fun a b => decide (a ≤ b)) (s := leK) fun a _ b _ => (leD_int a b).symm).symm
    · clear h e
      induction l with
      | nil => rfl
      | cons x l ih =>
        rw [List.nodup_cons] at nd
        rw [ddp, if_neg nd.1, ih nd.2]
  rw [e2, kD_ints]
  congr 4
  refine sortI_of ?_ fun k => mem_sortI.trans (h k).symm
  have : ∀ ms : List Int, (sortI ms).Pairwise (· < ·) := fun ms => by
    have tr : ∀ a b c : Int, decide (a ≤ b) = true → decide (b ≤ c) = true → decide (a ≤ c) = true := fun a b c h1 h2 => decide_eq_true (Int.le_trans (of_decide_eq_true h1) (of_decide_eq_true h2))
    have tt : ∀ a b : Int, (decide (a ≤ b) || decide (b ≤ a)) = true := fun a b => by rcases Int.le_total a b with h | h <;> simp [h]
    have p1 := List.pairwise_mergeSort tr tt (ddp ms)
    have p2 : ((ddp ms).mergeSort fun a b => decide (a ≤ b)).Nodup := (List.mergeSort_perm _ _).nodup_iff.mpr (nodup_ddp ms)
    exact (p1.and p2).imp fun ⟨a, b⟩ => by have := of_decide_eq_true a; omega
  exact this xs
theorem sortI_lt (ms : List Int) : (sortI ms).Pairwise (· < ·) := by
  have tr : ∀ a b c : Int, decide (a ≤ b) = true → decide (b ≤ c) = true → decide (a ≤ c) = true := fun a b c h1 h2 => decide_eq_true (Int.le_trans (of_decide_eq_true h1) (of_decide_eq_true h2))
  have tt : ∀ a b : Int, (decide (a ≤ b) || decide (b ≤ a)) = true := fun a b => by rcases Int.le_total a b with h | h <;> simp [h]
  have p1 := List.pairwise_mergeSort tr tt (ddp ms)
  have p2 : ((ddp ms).mergeSort fun a b => decide (a ≤ b)).Nodup := (List.mergeSort_perm _ _).nodup_iff.mpr (nodup_ddp ms)
  exact (p1.and p2).imp fun ⟨a, b⟩ => by have := of_decide_eq_true a; omega
/-- days from one on and before another one -/
def daysIn (b e : Int) : List Int := (List.range (e - b).toNat).map fun i : Nat => b + (i : Int)
theorem daysIn_lt (b e : Int) : (daysIn b e).Pairwise (· < ·) := by
  unfold daysIn
  rw [List.pairwise_map]
  exact List.pairwise_lt_range.imp fun h => by omega
theorem mem_daysIn {b e d : Int} : d ∈ daysIn b e ↔ b ≤ d ∧ d < e := by
  unfold daysIn
  rw [List.mem_map]
  constructor
  · rintro ⟨i, hi, rfl⟩
    have := List.mem_range.mp hi
    omega
  · rintro ⟨h1, h2⟩
    exact ⟨(d - b).toNat, List.mem_range.mpr (by omega), by omega⟩
theorem len_daysIn (b e : Int) : (daysIn b e).length = (e - b).toNat := by unfold daysIn; rw [List.length_map, List.length_range]
theorem rg_days (b e : Int) : rgD b (e - b).toNat = (daysIn b e).map D.int := by
  unfold rgD daysIn
  rw [List.map_map]; rfl
end DL

set_option Elab.async false
set_option linter.all false
set_option maxRecDepth 100000
set_option maxHeartbeats 4000000
/-! fractions: sizes, lowest terms, the divisor -/
namespace DL
def Sz (k : Nat) (q : Rat) : Prop := q.num.natAbs < 2 ^ k ∧ q.den < 2 ^ k
theorem p2_mono {k j : Nat} (h : k ≤ j) : 2 ^ k ≤ 2 ^ j := Nat.pow_le_pow_right (by decide) h
theorem Sz.mono {k j : Nat} {q : Rat} (h : Sz k q) (hk : k ≤ j) : Sz j q := ⟨Nat.lt_of_lt_of_le h.1 (p2_mono hk), Nat.lt_of_lt_of_le h.2 (p2_mono hk)⟩
theorem mul_sz {a b k l : Nat} (ha : a < 2 ^ k) (hb : b < 2 ^ l) : a * b < 2 ^ (k + l) := by
  rw [Nat.pow_add]
  have h1 : 0 < 2 ^ k := Nat.two_pow_pos k
  have h2 : 0 < 2 ^ l := Nat.two_pow_pos l
  rcases Nat.eq_zero_or_pos b with rfl | hb0
  · rw [Nat.mul_zero]; exact Nat.mul_pos h1 h2
  · exact Nat.lt_of_lt_of_le (Nat.mul_lt_mul_of_pos_right ha hb0) (Nat.mul_le_mul_left _ (Nat.le_of_lt hb))
theorem add_sz {a b k : Nat} (ha : a < 2 ^ k) (hb : b < 2 ^ k) : a + b < 2 ^ (k + 1) := by rw [Nat.pow_succ]; omega
theorem imul_sz {a b : Int} {k l : Nat} (ha : a.natAbs < 2 ^ k) (hb : b.natAbs < 2 ^ l) : (a * b).natAbs < 2 ^ (k + l) := by rw [Int.natAbs_mul]; exact mul_sz ha hb
theorem iadd_sz {a b : Int} {k : Nat} (ha : a.natAbs < 2 ^ k) (hb : b.natAbs < 2 ^ k) : (a + b).natAbs < 2 ^ (k + 1) := Nat.lt_of_le_of_lt (Int.natAbs_add_le a b) (add_sz ha hb)
theorem isub_sz {a b : Int} {k : Nat} (ha : a.natAbs < 2 ^ k) (hb : b.natAbs < 2 ^ k) : (a - b).natAbs < 2 ^ (k + 1) := by
  rw [Int.sub_eq_add_neg]
  exact iadd_sz ha (by rw [Int.natAbs_neg]; exact hb)
theorem log_sz {n k : Nat} (h : n < 2 ^ k) (hk : 0 < k) : n.log2 < k := by
  by_cases h0 : n = 0
  · subst h0; exact hk
  · exact (Nat.log2_lt h0).mpr h
/-- a numerator, a denominator in lowest terms -/
theorem frac_pos {n d : Int} (h : 0 < d) : n.fdiv (Int.gcd n d : Nat) = (Rat.divInt n d).num ∧ d.fdiv (Int.gcd n d : Nat) = ((Rat.divInt n d).den : Int) := by
  rw [Rat.num_divInt, Rat.den_divInt, if_neg (by omega), Int.sign_eq_one_of_pos h, Int.one_mul, Int.gcd_comm d n, Int.fdiv_eq_ediv_of_nonneg _ (by omega), Int.fdiv_eq_ediv_of_nonneg _ (by omega)]
  refine ⟨rfl, ?_⟩
  rw [Int.natCast_ediv, Int.natAbs_of_nonneg (by omega)]
theorem frac_neg {n d : Int} (h : d < 0) : n.fdiv (-(Int.gcd n d : Nat)) = (Rat.divInt n d).num ∧ d.fdiv (-(Int.gcd n d : Nat)) = ((Rat.divInt n d).den : Int) := by
  have h1 := frac_pos (n := -n) (d := -d) (by omega)
  rw [Rat.neg_divInt_neg, Int.gcd_neg, Int.neg_gcd] at h1
  rw [← h1.1, ← h1.2]
  have e : ∀ a b : Int, a.fdiv (-b) = (-a).fdiv b := fun a b => by
    have := Int.neg_fdiv_neg (-a) b
    rwa [Int.neg_neg] at this
  exact ⟨e _ _, e _ _⟩
theorem sz_div {n d : Int} {k : Nat} (hn : n.natAbs < 2 ^ k) (hd : d.natAbs < 2 ^ k) (h : d ≠ 0) : Sz k (Rat.divInt n d) := by
  unfold Sz
  rw [Rat.num_divInt, Rat.den_divInt, if_neg h]
  constructor
  · refine Nat.lt_of_le_of_lt (Int.natAbs_ediv_le_natAbs _ _) ?_
    rw [Int.natAbs_mul, Int.natAbs_sign, if_neg h, Nat.one_mul]
    exact hn
  · exact Nat.lt_of_le_of_lt (Nat.div_le_self _ _) hd
theorem den_cast (q : Rat) : ((q.den : Int)).natAbs = q.den := rfl
theorem den_pos' (q : Rat) : (0 : Int) < q.den := by have := q.den_pos; omega
/-! what the five ways give -/
theorem add_div (a b : Rat) : Rat.divInt (a.num * b.den + b.num * a.den) ((a.den : Int) * b.den) = a + b := by
  rw [Rat.add_def', ← Rat.divInt_ofNat]; norm_cast
theorem sub_div (a b : Rat) : Rat.divInt (a.num * b.den - b.num * a.den) ((a.den : Int) * b.den) = a - b := by
  rw [Rat.sub_def', ← Rat.divInt_ofNat]; norm_cast
theorem mul_div (a b : Rat) : Rat.divInt (a.num * b.num) ((a.den : Int) * b.den) = a * b := by
  rw [Rat.mul_def', ← Rat.divInt_ofNat]; norm_cast
theorem div_div (a b : Rat) : Rat.divInt (a.num * b.den) ((a.den : Int) * b.num) = a / b := by
  rw [Rat.div_def, Rat.inv_def]
  conv => rhs; rw [← Rat.num_divInt_den a]
  rw [Rat.divInt_mul_divInt]
theorem whole_div (n : Int) : Rat.divInt n 1 = (n : Rat) := by
  have := Rat.num_divInt_den (n : Rat)
  exact this
theorem sz_int {n : Int} {k : Nat} (hn : n.natAbs < 2 ^ k) (hk : 0 < k) : Sz k (n : Rat) := ⟨hn, by
  show 1 < 2 ^ k
  exact Nat.lt_of_lt_of_le (by decide) (p2_mono (k := 1) hk)⟩
theorem Sz.add {k l : Nat} {a b : Rat} (ha : Sz k a) (hb : Sz l b) : Sz (k + l + 1) (a + b) := by
  rw [← add_div]
  refine sz_div ?_ ?_ ?_
  · refine iadd_sz (imul_sz ha.1 hb.2) ?_
    rw [Nat.add_comm]; exact imul_sz hb.1 ha.2
  · exact Nat.lt_of_lt_of_le (imul_sz ha.2 hb.2) (p2_mono (by omega))
  · exact Int.ne_of_gt (Int.mul_pos (den_pos' a) (den_pos' b))
theorem Sz.sub {k l : Nat} {a b : Rat} (ha : Sz k a) (hb : Sz l b) : Sz (k + l + 1) (a - b) := by
  rw [← sub_div]
  refine sz_div ?_ ?_ ?_
  · refine isub_sz (imul_sz ha.1 hb.2) ?_
    rw [Nat.add_comm]; exact imul_sz hb.1 ha.2
  · exact Nat.lt_of_lt_of_le (imul_sz ha.2 hb.2) (p2_mono (by omega))
  · exact Int.ne_of_gt (Int.mul_pos (den_pos' a) (den_pos' b))
theorem Sz.mul {k l : Nat} {a b : Rat} (ha : Sz k a) (hb : Sz l b) : Sz (k + l) (a * b) := by
  rw [← mul_div]
  exact sz_div (imul_sz ha.1 hb.1) (imul_sz ha.2 hb.2) (Int.ne_of_gt (Int.mul_pos (den_pos' a) (den_pos' b)))
theorem Sz.div {k l : Nat} {a b : Rat} (ha : Sz k a) (hb : Sz l b) (h : b ≠ 0) : Sz (k + l) (a / b) := by
  rw [← div_div]
  refine sz_div (imul_sz ha.1 hb.2) (imul_sz ha.2 hb.1) ?_
  refine Int.mul_ne_zero (Int.ne_of_gt (den_pos' a)) fun e => h ?_
  exact Rat.num_eq_zero.mp e
theorem Sz.floor {k : Nat} {a : Rat} (ha : Sz k a) : a.floor.natAbs < 2 ^ k := by
  rw [Rat.floor_def]
  exact Nat.lt_of_le_of_lt (Int.natAbs_ediv_le_natAbs _ _) ha.1
theorem lt_num {a b : Rat} : a.num * (b.den : Int) < b.num * (a.den : Int) ↔ a < b := (Rat.lt_iff a b).symm
/-! the divisor, turn by turn -/
/-- behind k turns -/
structure Eu (g B : Nat) (k a b : Nat) : Prop where
  gcd : Nat.gcd a b = g
  ev : k % 2 = 0 → b * 2 ^ (k / 2) ≤ B
  od : k % 2 = 1 → a * 2 ^ (k / 2) ≤ B ∧ b < a
theorem Eu.start (a b : Nat) : Eu (Nat.gcd a b) b 0 a b := ⟨rfl, fun _ => by simp, fun h => by cases h⟩
theorem Eu.step {g B k a b : Nat} (h : Eu g B k a b) (hb : 0 < b) : Eu g B (k + 1) b (a % b) := by
  have hm := Nat.mod_lt a hb
  refine ⟨?_, fun e => ?_, fun e => ?_⟩
  · rw [← h.gcd, Nat.gcd_comm a b, Nat.gcd_rec b a, Nat.gcd_comm]
  · obtain ⟨h1, h2⟩ := h.od (by omega)
    rw [show (k + 1) / 2 = k / 2 + 1 by omega, Nat.pow_succ]
    have h3 : a % b * 2 ≤ a := by
      have := Nat.div_add_mod a b
      have h4 : 1 ≤ a / b := (Nat.one_le_div_iff hb).mpr (by omega)
      have h5 : b ≤ b * (a / b) := Nat.le_mul_of_pos_right b h4
      omega
    calc a % b * (2 ^ (k / 2) * 2) = a % b * 2 * 2 ^ (k / 2) := by rw [Nat.mul_assoc, Nat.mul_comm 2]
      _ ≤ a * 2 ^ (k / 2) := Nat.mul_le_mul_right _ h3
      _ ≤ B := h1
  · have := h.ev (by omega)
    rw [show (k + 1) / 2 = k / 2 by omega]
    exact ⟨this, hm⟩
theorem Eu.done {g B k a b m : Nat} (h : Eu g B (2 * k) a b) (hB : B < 2 ^ m) (hk : m ≤ k) : b = 0 := by
  have h1 := h.ev (by omega)
  rw [show 2 * k / 2 = k by omega] at h1
  rcases Nat.eq_zero_or_pos b with e | e
  · exact e
  · have h2 : 2 ^ m ≤ 2 ^ k := p2_mono hk
    have h3 : 1 * 2 ^ k ≤ b * 2 ^ k := Nat.mul_le_mul_right _ e
    omega
theorem Eu.zero {g B k a : Nat} (h : Eu g B k a 0) : a = g := by rw [← h.gcd, Nat.gcd_zero_right]
end DL

set_option Elab.async false
set_option linter.all false
set_option maxRecDepth 100000
set_option maxHeartbeats 4000000
/-! fractions as pairs -/
namespace DL
open PySem
open L2 (atI)
def encQ (q : Rat) : D := .tup [.int q.num, .int (q.den : Int)]
theorem mulOk_sz {i j : Int} {k l : Nat} (hi : i.natAbs < 2 ^ k) (hj : j.natAbs < 2 ^ l) (h : k + l ≤ 1000000) : mulOk i j := by
  by_cases i0 : i = 0
  · subst i0; exact .inl ⟨by decide, by decide⟩
  by_cases j0 : j = 0
  · subst j0; exact .inr (.inl ⟨by decide, by decide⟩)
  refine .inr (.inr ?_)
  have h1 := (Nat.log2_lt (show i.natAbs ≠ 0 by omega)).mpr hi
  have h2 := (Nat.log2_lt (show j.natAbs ≠ 0 by omega)).mpr hj
  omega
theorem divOk_sz {j : Int} {k : Nat} (h : j.natAbs < 2 ^ k) (hk : k ≤ 9000) (h0 : j ≠ 0) : divOk j := by
  refine ⟨h0, ?_⟩
  have h1 := (Nat.log2_lt (show j.natAbs ≠ 0 by omega)).mpr h
  omega
theorem plain_Q (q : Rat) : plainD 1 (encQ q) = true := by unfold encQ; simp [plainD, plainsD]
theorem encQ_inj {a b : Rat} : encQ a = encQ b ↔ a = b := by
  constructor
  · intro h
    unfold encQ at h
    injection h with h
    injection h with h1 h
    injection h with h2 h
    injection h1 with h1
    injection h2 with h2
    exact Rat.ext h1 (by omega)
  · intro h; rw [h]
theorem eq_Q (a b : Rat) : opEq (encQ a) (encQ b) = some (.d (.bl (decide (a = b)))) := by
  rw [eq_plain (plain_Q a) (plain_Q b) (by decide)]
  congr 3
  exact decide_eq_decide.mpr encQ_inj
theorem ne_Q (a b : Rat) : opNe (encQ a) (encQ b) = some (.d (.bl (!decide (a = b)))) := by
  rw [ne_plain (plain_Q a) (plain_Q b) (by decide)]
  congr 4
  exact decide_eq_decide.mpr encQ_inj
theorem tame_Q {n : Nat} (q : Rat) : tame (n + 1) (encQ q) = true := by unfold encQ; simp only [fit0, fit1, fit2, fit3, fit4, fit5, fit6, fit7, fit8, fit9, fit10, fit11, fit12, fit13, fit14, fit15, fit16, fit17, fit18, fit19, fit20, fit21, fit22, fit23, fit24, fit25, fit26, fit27, fit28, fit29, fit30, tame_int, tame_bl, tame_non, tame_tup2, tames_nil, tames_cons, w_seq, KS_nx, KS_rt, KS_bk, KS_ct, w_next, w_set, w_setM, w_drop, w_ret, w_retN, w_brk, w_cnt, w_if, w_asg, w_parB, w_parC, w_N, w_N0, w_N1, w_NT, KF_nx, KF_rt, w_fun, fin_d, fin_fr, w_fin, WE_some, WT_some, WA_some, WI_some, WS_some, WV_d, WV_fr, WV_loc, WVT_d, WVT_fr, WB_bl, WF_fr, WG_some, WO_some, WO_ite, WO_map, w_var, w_C, w_op, w_un, w_test, w_chain, w_and, w_or, w_not, w_VT, w_ifE, w_A0, w_A1, w_call, w_blt, w_curs0, w_curs1, w_vals0, w_vals1, w_tup, w_lst, w_yes, WL_loc, w_app, w_pop, w_rev, w_put, w_getI, w_isi, w_p0, w_p1, w_sl, w_lstR, w_tupR, w_newK, w_newT, KL_nx, KL_ct, KL_bk, KL_rt, wipeE, clr_nil, clr_cons, c1_none, c1_d, c1_loc, WC_z, WC_s, lt_a1, lt_a2, lt_a3, st_take2, put_lst, put_dK, kit_bb, kit_ib, kit_ii, kit_sb, kit_si, kit_ss, kit_tb, kit_ti, kit_ts, kit_tt, ty_int, ty_bl, ty_str, ty_tup, add_int, add_str, add_tup, add_lst, sub_int, mul_int', mul_lst, fdiv_int, mod_int, pow_int, neg_int, lt_int', le_int', gt_int', ge_int', is_non, isn_non, is_bl, isn_bl, isNon_int, isNon_str, isNon_tup, isNon_bl, isNon_non, len_str, len_tup, len_lst, len_frl, len_dK, int_int, int_bl, abs_int, sum_lst, any_lst, all_lst, max2_int, min2_int, tuple_lst, tuple_tup, list_lst, list_tup, ix_tup, ix_lst, ix_frl, ix_frt, sl_tup, sl_lst, tg_d, tg_fr, tg_loc, cellV_lst, cellV_dK, cellV_dT, eq_int, ne_int, eq_bl, ne_bl, in_ints_tup, in_ints_lst, atI_0, atI_1, atI_2, atI_3, st_len, st_at, st_at1, st_set, st_set1, st_take, st_take1, st_all, st_lt, List.map_cons, List.map_nil, List.length_cons, List.length_nil, List.length_map, List.getElem?_cons_zero, List.getElem?_cons_succ, List.set_cons_zero, List.set_cons_succ, List.cons_append, List.nil_append, List.append_nil, List.replicate_succ, List.replicate_zero, List.append_assoc, Nat.reduceAdd, Nat.reduceSub, Nat.reduceLT, Nat.zero_add, Nat.add_zero, true_implies, false_implies, and_true, true_and, implies_true, List.length_set, take_set, List.getElem?_set_self, Bool.not_true, decide_true, decide_false, Bool.not_false, decide_eq_true_eq, decide_eq_false_iff_not, Bool.true_eq_false, Bool.false_eq_true, Option.some.injEq, exists_eq_left, exists_eq_left', R.d.injEq, D.int.injEq, D.bl.injEq, if_true, if_false, reduceIte, not_true_eq_false, not_false_eq_true, List.take_zero, List.take_succ_cons, and_self, Option.map_some, Bool.false_xor, Bool.and_self, Bool.true_and, Bool.and_true, Bool.true_xor]
theorem bits_lt (i : Int) : i.natAbs < 2 ^ Builtin.Int.intBits i := by
  unfold Builtin.Int.intBits
  split
  · rename_i h
    rw [beq_iff_eq] at h
    subst h; decide
  · exact Nat.lt_log2_self
theorem bits_le {i : Int} {k : Nat} (h : i.natAbs < 2 ^ k) : Builtin.Int.intBits i ≤ k := by
  unfold Builtin.Int.intBits
  split
  · exact Nat.zero_le _
  · rename_i h0
    have : i.natAbs ≠ 0 := fun e => h0 (by rw [beq_iff_eq]; omega)
    exact (Nat.log2_lt this).mpr h
theorem bits_int {i : Int} : opBits (.int i) = some (.d (.int (Builtin.Int.intBits i : Nat))) := rfl
theorem abs_nat (n : Int) : (if n < 0 then -n else n) = (n.natAbs : Int) := by split <;> omega
theorem fmod_nat (a b : Nat) : (a : Int).fmod (b : Int) = ((a % b : Nat) : Int) := by
  rw [Int.fmod_eq_emod_of_nonneg _ (by omega)]; rfl
theorem ix_Q0 (q : Rat) : opIx (encQ q) (.int 0) = some (.d (.int q.num)) := rfl
theorem ix_Q1 (q : Rat) : opIx (encQ q) (.int 1) = some (.d (.int q.den)) := rfl
theorem gcd_pos {n d : Int} (h : d ≠ 0) : Int.gcd n d ≠ 0 := by
  intro q
  have := Int.gcd_eq_zero_iff.mp q
  exact h this.2
theorem gcd_sz {n d : Int} {k : Nat} (h : d ≠ 0) (hd : d.natAbs < 2 ^ k) : ((Int.gcd n d : Nat) : Int).natAbs < 2 ^ k := by
  show Nat.gcd n.natAbs d.natAbs < 2 ^ k
  exact Nat.lt_of_le_of_lt (Nat.le_of_dvd (by omega) (Nat.gcd_dvd_right _ _)) hd
theorem nat_sz {n k : Nat} (h : n < 2 ^ k) : ((n : Nat) : Int).natAbs < 2 ^ k := h
theorem encQ_of {q : Rat} {a b : Int} (h1 : a = q.num) (h2 : b = (q.den : Int)) : D.tup [.int a, .int b] = encQ q := by rw [h1, h2]; rfl
theorem iadd_int {i j : Int} : iAdd (.int i) (.int j) = some (.d (.int (i + j))) := rfl
theorem isub_int {i j : Int} : iSub (.int i) (.int j) = some (.d (.int (i - j))) := rfl
end DL

set_option Elab.async false
set_option linter.all false
set_option maxRecDepth 100000
set_option maxHeartbeats 4000000
/-! the moon: plain mathematics -/
namespace DL
/-- rounds from the new moon on, a fraction -/
def mP (new turn y : Rat) : Rat := (y - new) / turn
section
variable {new turn : Rat} (ht : 0 < turn)
include ht
theorem mP_lt {y z : Rat} : mP new turn y < z ↔ y < new + turn * z := by
  unfold mP
  rw [Rat.div_lt_iff' ht]
  constructor <;> intro h <;> grind
theorem lt_mP {y z : Rat} : z < mP new turn y ↔ new + turn * z < y := by
  unfold mP
  rw [Rat.lt_div_iff' ht]
  constructor <;> intro h <;> grind
theorem mP_le {y z : Rat} : mP new turn y ≤ z ↔ y ≤ new + turn * z := by
  rw [← Rat.not_lt, lt_mP ht, Rat.not_lt]
theorem le_mP {y z : Rat} : z ≤ mP new turn y ↔ new + turn * z ≤ y := by
  rw [← Rat.not_lt, mP_lt ht, Rat.not_lt]
end
def mRnd (new turn : Rat) (d : Int) : Int := (mP new turn d).floor
def mNew (new turn z : Rat) : Rat := new + turn * z
def mAge (new turn : Rat) (d : Int) : Rat := d - mNew new turn (mRnd new turn d)
section
variable {new turn : Rat} (ht : 0 < turn)
include ht
theorem rnd_le {n d : Int} : n ≤ mRnd new turn d ↔ mNew new turn n ≤ d := by
  unfold mRnd mNew
  rw [Rat.le_floor_iff, le_mP ht]
theorem rnd_lt {n d : Int} : mRnd new turn d < n ↔ (d : Rat) < mNew new turn n := by
  unfold mRnd mNew
  rw [Rat.floor_lt_iff, mP_lt ht]
theorem age_nn {d : Int} : 0 ≤ mAge new turn d := by
  have := (rnd_le ht (new := new) (n := mRnd new turn d) (d := d)).mp (Int.le_refl _)
  unfold mAge
  grind
theorem age_lt {d : Int} : mAge new turn d < turn := by
  have := (rnd_lt ht (new := new) (n := mRnd new turn d + 1) (d := d)).mp (by omega)
  unfold mAge
  unfold mNew at this ⊢
  rw [Rat.intCast_add] at this
  grind
end
/-- the first at or behind a day -/
def mNxt (new turn : Rat) (d : Int) : Int := if mNew new turn (mRnd new turn d) = d then mRnd new turn d else mRnd new turn d + 1
section
variable {new turn : Rat} (ht : 0 < turn)
include ht
theorem nxt_le {n d : Int} : mNxt new turn d ≤ n ↔ (d : Rat) ≤ mNew new turn n := by
  have h1 := rnd_le ht (new := new) (n := mRnd new turn d) (d := d)
  have h2 := rnd_lt ht (new := new) (n := n) (d := d)
  have h3 := rnd_le ht (new := new) (n := n) (d := d)
  unfold mNxt
  split
  · rename_i e
    constructor
    · intro h
      by_cases q : n = mRnd new turn d
      · rw [q, e]; exact Rat.le_refl
      · exact Rat.le_of_lt (h2.mp (by omega))
    · intro h
      refine Classical.byContradiction fun q => ?_
      have q2 : n < mRnd new turn d := by omega
      have h4 : mNew new turn n < mNew new turn (mRnd new turn d) := by
        unfold mNew
        have := Rat.mul_lt_mul_of_pos_left (Rat.intCast_lt_intCast.mpr q2) ht
        grind
      rw [e] at h4
      grind
  · rename_i e
    constructor
    · intro h
      exact Rat.le_of_lt (h2.mp (by omega))
    · intro h
      refine Classical.byContradiction fun q => ?_
      have q2 : n ≤ mRnd new turn d := by omega
      have h5 := h3.mp q2
      have h6 : mNew new turn n = d := Rat.le_antisymm h5 h
      by_cases q3 : n = mRnd new turn d
      · rw [q3] at h6; exact e h6
      · have h7 : mNew new turn n < mNew new turn (mRnd new turn d) := by
          unfold mNew
          have := Rat.mul_lt_mul_of_pos_left (Rat.intCast_lt_intCast.mpr (show n < mRnd new turn d by omega)) ht
          grind
        have h8 := h1.mp (Int.le_refl _)
        grind
theorem nxt_pos {d : Int} : mNxt new turn d = mRnd new turn d + (if 0 < (mAge new turn d).num then 1 else 0) := by
  have h1 := age_nn ht (new := new) (d := d)
  have h2 : 0 < (mAge new turn d).num ↔ mNew new turn (mRnd new turn d) ≠ d := by
    have h3 : (mAge new turn d).num = 0 ↔ mNew new turn (mRnd new turn d) = d := by
      rw [Rat.num_eq_zero]
      unfold mAge
      constructor <;> intro h <;> grind
    have h4 := Rat.num_nonneg.mpr h1
    constructor
    · intro h q
      have := h3.mpr q
      omega
    · intro h
      have : (mAge new turn d).num ≠ 0 := fun q => h (h3.mp q)
      omega
  unfold mNxt
  by_cases h : mNew new turn (mRnd new turn d) = d
  · rw [if_pos h, if_neg (fun q => h2.mp q h), Int.add_zero]
  · rw [if_neg h, if_pos (h2.mpr h)]
end
theorem cast4 : ((4 : Int) : Rat) = 4 := rfl
theorem quarter {new turn : Rat} (ht : 0 < turn) {d : Int} : (4 * mAge new turn d / turn).floor = (([1, 2, 3] : List Int).filter fun p : Int => !decide (mAge new turn d < turn * ((p : Rat) / 4))).length := by
  have a0 := age_nn ht (new := new) (d := d)
  have a1 := age_lt ht (new := new) (d := d)
  generalize mAge new turn d = a at a0 a1
  have key : ∀ p : Int, (p ≤ (4 * a / turn).floor) ↔ ¬ a < turn * ((p : Rat) / 4) := fun p => by
    rw [Rat.le_floor_iff, ← Rat.not_lt, Rat.div_lt_iff' ht]
    have e : turn * ((p : Rat) / 4) = turn * (p : Rat) / 4 := by grind
    rw [e]
    constructor <;> intro h q <;> apply h <;> grind
  have k0 := key 0
  have k1 := key 1
  have k2 := key 2
  have k3 := key 3
  have k4 := key 4
  generalize (4 * a / turn).floor = q at k0 k1 k2 k3 k4
  have q0 : 0 ≤ q := k0.mpr (by
    rw [show ((0 : Int) : Rat) = 0 from rfl]
    grind)
  have q4 : ¬ 4 ≤ q := fun h => k4.mp h (by
    rw [show ((4 : Int) : Rat) = 4 from rfl]
    grind)
  have hq : q = 0 ∨ q = 1 ∨ q = 2 ∨ q = 3 := by omega
  rcases hq with rfl | rfl | rfl | rfl
  · have h1 : a < turn * (((1 : Int) : Rat) / 4) := Classical.byContradiction fun h => by have := k1.mpr h; omega
    have h2 : a < turn * (((2 : Int) : Rat) / 4) := Classical.byContradiction fun h => by have := k2.mpr h; omega
    have h3 : a < turn * (((3 : Int) : Rat) / 4) := Classical.byContradiction fun h => by have := k3.mpr h; omega
    simp only [List.filter_cons, h1, h2, h3, decide_true, Bool.not_true, Bool.false_eq_true, if_false, List.filter_nil, List.length_nil]; rfl
  · have h1 := k1.mp (by omega)
    have h2 : a < turn * (((2 : Int) : Rat) / 4) := Classical.byContradiction fun h => by have := k2.mpr h; omega
    have h3 : a < turn * (((3 : Int) : Rat) / 4) := Classical.byContradiction fun h => by have := k3.mpr h; omega
    simp only [List.filter_cons, h1, h2, h3, decide_true, decide_false, Bool.not_true, Bool.not_false, Bool.false_eq_true, if_false, if_true, List.filter_nil, List.length_nil, List.length_cons]; rfl
  · have h1 := k1.mp (by omega)
    have h2 := k2.mp (by omega)
    have h3 : a < turn * (((3 : Int) : Rat) / 4) := Classical.byContradiction fun h => by have := k3.mpr h; omega
    simp only [List.filter_cons, h1, h2, h3, decide_true, decide_false, Bool.not_true, Bool.not_false, Bool.false_eq_true, if_false, if_true, List.filter_nil, List.length_nil, List.length_cons]; rfl
  · have h1 := k1.mp (by omega)
    have h2 := k2.mp (by omega)
    have h3 := k3.mp (by omega)
    simp only [List.filter_cons, h1, h2, h3, decide_true, decide_false, Bool.not_true, Bool.not_false, Bool.false_eq_true, if_false, if_true, List.filter_nil, List.length_nil, List.length_cons]; rfl
/-! spring tides -/
def mNear (t : Rat) : Int := -(1 / 2 - t).floor
theorem near_lt {t : Rat} {e : Int} : mNear t < e ↔ t ≤ e - 1 / 2 := by
  unfold mNear
  have : -(1 / 2 - t).floor < e ↔ 1 - e ≤ (1 / 2 - t).floor := by omega
  rw [this, Rat.le_floor_iff, Rat.intCast_sub]
  rw [show ((1 : Int) : Rat) = 1 from rfl]
  constructor <;> intro h <;> grind
theorem near_ge {t : Rat} {b : Int} : b ≤ mNear t ↔ b - 1 / 2 < t := by
  rw [← Int.not_lt, near_lt, Rat.not_le]
theorem near_eq {t : Rat} {d : Int} : mNear t = d ↔ d - 1 / 2 < t ∧ t ≤ d + 1 / 2 := by
  have h1 := near_ge (t := t) (b := d)
  have h2 := near_lt (t := t) (e := d + 1)
  rw [Rat.intCast_add, show ((1 : Int) : Rat) = 1 from rfl] at h2
  constructor
  · intro h
    exact ⟨h1.mp (by omega), by have := h2.mp (by omega); grind⟩
  · rintro ⟨a, b⟩
    have := h1.mpr a
    have := h2.mpr (by grind)
    omega
/-- the time of a new or full moon by half rounds -/
def mHalf (new turn : Rat) (h : Int) : Rat := new + turn * ((h : Rat) / 2)
def mSpr (new turn : Rat) (d : Int) : Bool := decide ((d : Rat) - 1 / 2 < mHalf new turn ((2 * (d + 1 / 2 - new) / turn).floor))
theorem half_floor {new turn : Rat} (ht : 0 < turn) {y : Rat} {h : Int} : h ≤ (2 * (y - new) / turn).floor ↔ mHalf new turn h ≤ y := by
  rw [Rat.le_floor_iff, ← Rat.not_lt, Rat.div_lt_iff' ht]
  unfold mHalf
  have e : turn * ((h : Rat) / 2) = turn * (h : Rat) / 2 := by grind
  rw [e]
  constructor <;> intro h <;> grind
theorem half_mono {new turn : Rat} (ht : 0 < turn) {h k : Int} (hk : h ≤ k) : mHalf new turn h ≤ mHalf new turn k := by
  unfold mHalf
  have := Rat.mul_le_mul_of_nonneg_left (Rat.intCast_le_intCast.mpr hk) (Rat.le_of_lt ht)
  grind
theorem spr_iff {new turn : Rat} (ht : 0 < turn) {d : Int} : mSpr new turn d = true ↔ ∃ h : Int, mNear (mHalf new turn h) = d := by
  unfold mSpr
  rw [decide_eq_true_eq]
  constructor
  · intro h
    refine ⟨_, near_eq.mpr ⟨h, ?_⟩⟩
    exact (half_floor ht).mp (Int.le_refl _)
  · rintro ⟨h, e⟩
    obtain ⟨h1, h2⟩ := near_eq.mp e
    have h3 := half_mono ht (new := new) ((half_floor ht (new := new)).mpr h2)
    grind
/-- ahead of the first half round none lies behind the begin -/
theorem half_first {new turn : Rat} (ht : 1 ≤ turn) {b h : Int} (hh : h < 2 * mRnd new turn b - 2) : mNear (mHalf new turn h) < b := by
  have ht0 : 0 < turn := by grind
  have h1 := (rnd_le ht0 (new := new) (n := mRnd new turn b) (d := b)).mp (Int.le_refl _)
  have h2 := half_mono ht0 (new := new) (Int.le_of_lt hh)
  rw [near_lt]
  unfold mHalf at h2 ⊢
  unfold mNew at h1
  rw [Rat.intCast_sub, Rat.intCast_mul] at h2
  rw [show ((2 : Int) : Rat) = 2 from rfl] at h2
  have e : turn * ((2 * (mRnd new turn b : Rat) - 2) / 2) = turn * (mRnd new turn b : Rat) - turn := by grind
  rw [e] at h2
  grind
/-- how many there may be -/
theorem half_count {new turn : Rat} (ht : 1 ≤ turn) {b e h : Int} (hh : mNear (mHalf new turn h) < e) (hb : b ≤ e) : h ≤ 2 * mRnd new turn b - 2 + (2 * (e - b) + 4) := by
  have ht0 : 0 < turn := by grind
  have h1 := (rnd_lt ht0 (new := new) (n := mRnd new turn b + 1) (d := b)).mp (by omega)
  rw [near_lt] at hh
  refine Classical.byContradiction fun q => ?_
  have q2 : 2 * mRnd new turn b + 2 + 2 * (e - b) ≤ h := by omega
  have h2 := half_mono ht0 (new := new) q2
  unfold mHalf at h2 hh
  unfold mNew at h1
  rw [Rat.intCast_add, show ((1 : Int) : Rat) = 1 from rfl] at h1
  simp only [Rat.intCast_add, Rat.intCast_mul, Rat.intCast_sub] at h2
  rw [show ((2 : Int) : Rat) = 2 from rfl] at h2
  have e1 : turn * ((2 * (mRnd new turn b : Rat) + 2 + 2 * ((e : Rat) - b)) / 2) = turn * ((mRnd new turn b : Rat) + 1) + turn * ((e : Rat) - b) := by grind
  rw [e1] at h2
  have h3 : (0 : Rat) ≤ (e : Rat) - b := by
    have := Rat.intCast_le_intCast.mpr hb
    grind
  have h4 := Rat.mul_le_mul_of_nonneg_right ht h3
  grind
theorem nxt_bound {new turn : Rat} (ht : 1 ≤ turn) {b e : Int} (hb : b ≤ e) : mRnd new turn b ≤ mNxt new turn b ∧ mNxt new turn b ≤ mNxt new turn e ∧ mNxt new turn e ≤ mRnd new turn b + 1 + (e - b) := by
  have ht0 : 0 < turn := by grind
  have hc := Rat.intCast_le_intCast.mpr hb
  refine ⟨?_, ?_, ?_⟩
  · unfold mNxt; split <;> omega
  · rw [nxt_le ht0]
    have := (nxt_le ht0 (new := new) (n := mNxt new turn e) (d := e)).mp (Int.le_refl _)
    grind
  · rw [nxt_le ht0]
    have h1 := (rnd_lt ht0 (new := new) (n := mRnd new turn b + 1) (d := b)).mp (by omega)
    unfold mNew at h1 ⊢
    simp only [Rat.intCast_add, Rat.intCast_sub] at h1 ⊢
    rw [show ((1 : Int) : Rat) = 1 from rfl] at h1 ⊢
    have h3 : (0 : Rat) ≤ (e : Rat) - b := by grind
    have h4 := Rat.mul_le_mul_of_nonneg_right ht h3
    have e1 : turn * ((mRnd new turn b : Rat) + 1 + ((e : Rat) - b)) = turn * ((mRnd new turn b : Rat) + 1) + turn * ((e : Rat) - b) := by grind
    rw [e1]
    grind
theorem cnt_range (a b r : Int) : ∀ N : Nat, r ≤ a → a ≤ b → (((List.range N).filter fun i : Nat => decide (a ≤ r + (i : Int)) && decide (r + (i : Int) < b)).length : Int) = min (b - a) (max (r + N - a) 0)
  | 0, h1, h2 => by simp; omega
  | N + 1, h1, h2 => by
    have ih := cnt_range a b r N h1 h2
    rw [List.range_succ, List.filter_append, List.length_append, Int.natCast_add, ih]
    by_cases q : a ≤ r + (N : Int) ∧ r + (N : Int) < b
    · rw [List.filter_cons_of_pos (by simp [q]), List.filter_nil]
      simp only [List.length_cons, List.length_nil]
      omega
    · rw [List.filter_cons_of_neg (by simpa using q), List.filter_nil]
      simp only [List.length_nil]
      omega
end DL

set_option Elab.async false
set_option linter.all false
set_option maxRecDepth 100000
set_option maxHeartbeats 4000000
/-! the moon, other days, other moons: plain mathematics -/
namespace DL
theorem rnd_of {new turn : Rat} (ht : 0 < turn) {d n : Int} (h1 : mNew new turn n ≤ d) (h2 : (d : Rat) < mNew new turn (n + 1 : Int)) : mRnd new turn d = n := by
  have := (rnd_le ht).mpr h1
  have := (rnd_lt ht).mpr h2
  omega
theorem rnd_at {new turn : Rat} (ht : 0 < turn) (d : Int) : mNew new turn (mRnd new turn d) ≤ d ∧ (d : Rat) < mNew new turn (mRnd new turn d + 1 : Int) := ⟨(rnd_le ht).mp (Int.le_refl _), (rnd_lt ht).mp (by omega)⟩
theorem rnd_mono {new turn : Rat} (ht : 0 < turn) {d e : Int} (h : d ≤ e) : mRnd new turn d ≤ mRnd new turn e := by
  rw [rnd_le ht]
  exact Rat.le_trans (rnd_at ht d).1 (Rat.intCast_le_intCast.mpr h)
theorem one_cast : ((1 : Int) : Rat) = 1 := rfl
theorem grown {new turn : Rat} (ht : 0 < turn) (d : Int) : mAge new turn (d + 1) = mAge new turn d + 1 - turn * (((mAge new turn d + 1) / turn).floor : Rat) := by
  have a0 := age_nn ht (new := new) (d := d + 1)
  have a1 := age_lt ht (new := new) (d := d + 1)
  have e : mAge new turn d + 1 = mAge new turn (d + 1) + turn * ((mRnd new turn (d + 1) - mRnd new turn d : Int) : Rat) := by
    unfold mAge mNew
    rw [Rat.intCast_add, Rat.intCast_sub, one_cast]
    grind
  have hf : ((mAge new turn d + 1) / turn).floor = mRnd new turn (d + 1) - mRnd new turn d := by
    have h1 : mRnd new turn (d + 1) - mRnd new turn d ≤ ((mAge new turn d + 1) / turn).floor := by
      rw [Rat.le_floor_iff, ← Rat.not_lt, Rat.div_lt_iff' ht, e]
      grind
    have h2 : ((mAge new turn d + 1) / turn).floor < mRnd new turn (d + 1) - mRnd new turn d + 1 := by
      rw [Rat.floor_lt_iff, Rat.div_lt_iff' ht, e, Rat.intCast_add, one_cast]
      grind
    omega
  rw [hf]
  grind
theorem grown_less {new turn : Rat} (ht : 0 < turn) (d : Int) (h : mAge new turn d + 1 < turn) : mAge new turn (d + 1) = mAge new turn d + 1 := by
  have a0 := age_nn ht (new := new) (d := d)
  have hf : ((mAge new turn d + 1) / turn).floor = 0 := by
    have h1 : 0 ≤ ((mAge new turn d + 1) / turn).floor := by
      rw [Rat.le_floor_iff, ← Rat.not_lt, Rat.div_lt_iff' ht, show ((0 : Int) : Rat) = 0 from rfl]
      grind
    have h2 : ((mAge new turn d + 1) / turn).floor < 1 := by
      rw [Rat.floor_lt_iff, Rat.div_lt_iff' ht, one_cast]
      grind
    omega
  have := grown ht (new := new) d
  rw [hf, show ((0 : Int) : Rat) = 0 from rfl] at this
  grind
theorem quarters_on {new turn : Rat} (ht : 4 < turn) (d : Int) : (((4 * mAge new turn (d + 1) / turn).floor - (4 * mAge new turn d / turn).floor).fmod 4) ≤ 1 := by
  have ht0 : 0 < turn := by grind
  have hne : turn ≠ 0 := by grind
  have key : ∀ d : Int, (4 * mAge new turn d / turn).floor = (4 * ((d : Rat) - new) / turn).floor - 4 * mRnd new turn d := fun d => by
    have e : ∀ z : Int, z ≤ (4 * mAge new turn d / turn).floor ↔ z + 4 * mRnd new turn d ≤ (4 * ((d : Rat) - new) / turn).floor := fun z => by
      rw [Rat.le_floor_iff, Rat.le_floor_iff, ← Rat.not_lt, ← Rat.not_lt, Rat.div_lt_iff' ht0, Rat.div_lt_iff' ht0]
      unfold mAge mNew
      rw [Rat.intCast_add, Rat.intCast_mul, show ((4 : Int) : Rat) = 4 from rfl]
      constructor <;> intro h q <;> apply h <;> grind
    have h1 := (e _).mp (Int.le_refl _)
    have h2 := (e ((4 * ((d : Rat) - new) / turn).floor - 4 * mRnd new turn d)).mpr (by omega)
    omega
  rw [key, key]
  have h1 : (4 * ((d : Rat) - new) / turn).floor ≤ (4 * (((d + 1 : Int) : Rat) - new) / turn).floor := by
    rw [Rat.le_floor_iff, ← Rat.not_lt, Rat.div_lt_iff' ht0]
    have h2 := Rat.floor_le (4 * ((d : Rat) - new) / turn)
    rw [← Rat.not_lt, Rat.div_lt_iff' ht0, Rat.not_lt] at h2
    rw [Rat.intCast_add, one_cast]
    grind
  have h3 : (4 * (((d + 1 : Int) : Rat) - new) / turn).floor ≤ (4 * ((d : Rat) - new) / turn).floor + 1 := by
    have h2 := Rat.lt_floor_add_one (4 * ((d : Rat) - new) / turn)
    rw [Rat.div_lt_iff' ht0] at h2
    have : (4 * (((d + 1 : Int) : Rat) - new) / turn).floor < (4 * ((d : Rat) - new) / turn).floor + 2 := by
      rw [Rat.floor_lt_iff, Rat.div_lt_iff' ht0, Rat.intCast_add, Rat.intCast_add, one_cast, show ((2 : Int) : Rat) = 2 from rfl]
      rw [Rat.intCast_add, one_cast] at h2
      grind
    omega
  rw [Int.fmod_eq_emod_of_nonneg _ (by decide)]
  omega
theorem age_zero {new turn : Rat} (ht : 0 < turn) (d : Int) : mAge new turn d = 0 ↔ mNew new turn (mNxt new turn d) = d := by
  have h1 : mAge new turn d = 0 ↔ mNew new turn (mRnd new turn d) = d := by
    unfold mAge
    constructor <;> intro h <;> grind
  rw [h1]
  unfold mNxt
  split
  · rfl
  · rename_i h
    have := (rnd_at ht (new := new) d).2
    constructor
    · intro q; exact absurd q h
    · intro q
      rw [q] at this
      exact absurd this (by grind)
theorem nxt_at {new turn : Rat} (ht : 0 < turn) (d : Int) : (d : Rat) ≤ mNew new turn (mNxt new turn d) := (nxt_le ht).mp (Int.le_refl _)
theorem nxt_mono {new turn : Rat} (ht : 0 < turn) {d e : Int} (h : d ≤ e) : mNxt new turn d ≤ mNxt new turn e := by
  rw [nxt_le ht]
  exact Rat.le_trans (Rat.intCast_le_intCast.mpr h) (nxt_at ht e)
theorem nxt_grows {new turn : Rat} (ht : 0 < turn) {d : Int} (h : mAge new turn d = 0) : mNxt new turn d < mNxt new turn (d + 1) := by
  have h1 := (age_zero ht d).mp h
  refine Classical.byContradiction fun q => ?_
  have h2 := (nxt_le ht (new := new) (n := mNxt new turn d) (d := d + 1)).mp (by omega)
  rw [h1, Rat.intCast_add, one_cast] at h2
  grind
theorem mNew_add {new turn : Rat} (n k : Int) : mNew new turn (n + k : Int) = mNew new turn n + turn * k := by
  unfold mNew
  rw [Rat.intCast_add]
  grind
theorem nxt_span {new turn : Rat} (ht : 0 < turn) {b e : Int} (hb : b ≤ e) : (((e - b : Int) : Rat) / turn).floor ≤ mNxt new turn e - mNxt new turn b ∧ mNxt new turn e - mNxt new turn b ≤ (((e - b : Int) : Rat) / turn).floor + 1 := by
  have f1 := Rat.floor_le (((e - b : Int) : Rat) / turn)
  have f2 := Rat.lt_floor_add_one (((e - b : Int) : Rat) / turn)
  rw [← Rat.not_lt, Rat.div_lt_iff' ht, Rat.not_lt] at f1
  rw [Rat.div_lt_iff' ht, Rat.intCast_add, one_cast] at f2
  generalize (((e - b : Int) : Rat) / turn).floor = r at f1 f2 ⊢
  rw [Rat.intCast_sub] at f1 f2
  have a1 := nxt_at ht (new := new) b
  have a2 := nxt_at ht (new := new) e
  constructor
  · have : mNxt new turn b ≤ mNxt new turn e + -r := by
      rw [nxt_le ht, mNew_add, Rat.intCast_neg]
      grind
    omega
  · have : mNxt new turn e ≤ mNxt new turn b + (r + 1) := by
      rw [nxt_le ht, mNew_add, Rat.intCast_add, one_cast]
      grind
    omega
theorem nxt_next {new turn : Rat} (ht : 1 ≤ turn) (n : Int) : mNxt new turn ((mNew new turn n).floor + 1) = n + 1 := by
  have ht0 : 0 < turn := by grind
  have f1 := Rat.floor_le (mNew new turn n)
  have f2 := Rat.lt_floor_add_one (mNew new turn n)
  have h1 : mNxt new turn ((mNew new turn n).floor + 1) ≤ n + 1 := by
    rw [nxt_le ht0, mNew_add, Rat.intCast_add, one_cast]
    grind
  have h2 : ¬ mNxt new turn ((mNew new turn n).floor + 1) ≤ n := by
    rw [nxt_le ht0]
    grind
  omega
/-! a new moon some rounds later -/
theorem shift_new {new turn : Rat} (k n : Int) : mNew (mNew new turn k) turn n = mNew new turn (n + k : Int) := by
  rw [mNew_add]
  unfold mNew
  grind
theorem shift_rnd {new turn : Rat} (ht : 0 < turn) (k d : Int) : mRnd (mNew new turn k) turn d = mRnd new turn d - k := by
  obtain ⟨h1, h2⟩ := rnd_at ht (new := new) d
  refine rnd_of ht ?_ ?_
  · rw [shift_new, show mRnd new turn d - k + k = mRnd new turn d by omega]; exact h1
  · rw [shift_new, show mRnd new turn d - k + 1 + k = mRnd new turn d + 1 by omega]; exact h2
theorem shift_age {new turn : Rat} (ht : 0 < turn) (k d : Int) : mAge (mNew new turn k) turn d = mAge new turn d := by
  unfold mAge
  rw [shift_rnd ht, shift_new, show mRnd new turn d - k + k = mRnd new turn d by omega]
theorem shift_nxt {new turn : Rat} (ht : 0 < turn) (k d : Int) : mNew (mNew new turn k) turn (mNxt (mNew new turn k) turn d) = mNew new turn (mNxt new turn d) := by
  rw [shift_new]
  congr 2
  unfold mNxt
  rw [shift_rnd ht, shift_new, show mRnd new turn d - k + k = mRnd new turn d by omega]
  split <;> omega
theorem shift_spr {new turn : Rat} (ht : 0 < turn) (k d : Int) : mSpr (mNew new turn k) turn d = mSpr new turn d := by
  have e : ∀ h : Int, mHalf (mNew new turn k) turn h = mHalf new turn (h + 2 * k) := fun h => by
    unfold mHalf mNew
    rw [Rat.intCast_add, Rat.intCast_mul, show ((2 : Int) : Rat) = 2 from rfl]
    grind
  refine Bool.eq_iff_iff.mpr ?_
  rw [spr_iff ht, spr_iff ht]
  constructor
  · rintro ⟨h, q⟩
    exact ⟨h + 2 * k, by rw [← e]; exact q⟩
  · rintro ⟨h, q⟩
    exact ⟨h - 2 * k, by rw [e, show h - 2 * k + 2 * k = h by omega]; exact q⟩
/-! all moved by days -/
theorem move_new {new turn z : Rat} (b : Int) : mNew (new + b) turn z = mNew new turn z + b := by unfold mNew; grind
theorem move_rnd {new turn : Rat} (b d : Int) : mRnd (new + b) turn (d + b) = mRnd new turn d := by
  unfold mRnd mP
  rw [Rat.intCast_add]
  congr 2
  grind
theorem move_age {new turn : Rat} (b d : Int) : mAge (new + b) turn (d + b) = mAge new turn d := by
  unfold mAge
  rw [move_rnd, move_new, Rat.intCast_add]
  grind
theorem move_nxt {new turn : Rat} (b d : Int) : mNxt (new + b) turn (d + b) = mNxt new turn d := by
  unfold mNxt
  rw [move_rnd, move_new, Rat.intCast_add]
  by_cases h : mNew new turn (mRnd new turn d) = d
  · rw [if_pos h, if_pos (by rw [h])]
  · rw [if_neg h, if_neg (fun q => h (by grind))]
theorem move_spr {new turn : Rat} (ht : 0 < turn) (b d : Int) : mSpr (new + b) turn (d + b) = mSpr new turn d := by
  have e : ∀ h : Int, mHalf (new + b) turn h = mHalf new turn h + b := fun h => by unfold mHalf; grind
  have e2 : ∀ (t : Rat), mNear (t + b) = d + b ↔ mNear t = d := fun t => by
    rw [near_eq, near_eq, Rat.intCast_add]
    constructor <;> rintro ⟨h1, h2⟩ <;> constructor <;> grind
  refine Bool.eq_iff_iff.mpr ?_
  rw [spr_iff ht, spr_iff ht]
  constructor
  · rintro ⟨h, q⟩
    exact ⟨h, (e2 _).mp (by rw [← e]; exact q)⟩
  · rintro ⟨h, q⟩
    exact ⟨h, by rw [e]; exact (e2 _).mpr q⟩
theorem den_one {q : Rat} : q.den = 1 ↔ ∃ k : Int, q = k := by
  constructor
  · intro h
    exact ⟨q.num, Rat.ext rfl h⟩
  · rintro ⟨k, rfl⟩
    rfl
theorem age_same {new turn : Rat} (ht : 0 < turn) (d e : Int) : mAge new turn d = mAge new turn e ↔ (((e - d : Int) : Rat) / turn).den = 1 := by
  have hne : turn ≠ 0 := by grind
  rw [den_one]
  constructor
  · intro h
    refine ⟨mRnd new turn e - mRnd new turn d, ?_⟩
    have h2 : ((e - d : Int) : Rat) = ((mRnd new turn e - mRnd new turn d : Int) : Rat) * turn := by
      unfold mAge mNew at h
      rw [Rat.intCast_sub, Rat.intCast_sub]
      grind
    rw [h2, Rat.mul_div_cancel hne]
  · rintro ⟨k, h⟩
    have h2 : ((e - d : Int) : Rat) = (k : Rat) * turn := by
      rw [← h, Rat.div_mul_cancel hne]
    rw [Rat.intCast_sub] at h2
    obtain ⟨r1, r2⟩ := rnd_at ht (new := new) d
    have hr : mRnd new turn e = mRnd new turn d + k := by
      refine rnd_of ht ?_ ?_
      · rw [mNew_add]; grind
      · rw [show mRnd new turn d + k + 1 = mRnd new turn d + 1 + k by omega, mNew_add]; grind
    unfold mAge
    rw [hr, mNew_add]
    grind
end DL

set_option Elab.async false
set_option linter.all false
set_option maxRecDepth 100000
set_option maxHeartbeats 4000000
namespace K92
open PySem PySem.Spec PyProof.Rows L2 DL
def top (i : Nat) : Stmt := PySem.Challenge.pw_boatsout_k92_whole_moons_that_come_again.main.body.getD i (.Pass ⟨0, 0, 0, 0⟩)
abbrev s_divisor_of : Stmt := top 1
abbrev s_fraction : Stmt := top 2
abbrev s_plus_of : Stmt := top 3
abbrev s_minus_of : Stmt := top 4
abbrev s_times_of : Stmt := top 5
abbrev s_divided_by : Stmt := top 6
abbrev s_floor_of : Stmt := top 9
abbrev s_rounds_by : Stmt := top 10
abbrev s_new_of : Stmt := top 11
abbrev s_age_at : Stmt := top 12
abbrev s_quarter_at : Stmt := top 13
abbrev s_next_number : Stmt := top 14
abbrev s_next_new : Stmt := top 15
abbrev s_nearest_day : Stmt := top 16
abbrev s_spring_after : Stmt := top 17
abbrev s_spring_days : Stmt := top 18
abbrev s_is_spring : Stmt := top 19
abbrev s_same_age : Stmt := top 20
abbrev s_moons_between : Stmt := top 21
abbrev s__law_draws : Stmt := top 23
abbrev s__law_take : Stmt := top 24
abbrev s__law_cell : Stmt := top 25
abbrev s__law_same : Stmt := top 26
abbrev s__law_divisor : Stmt := top 27
abbrev s__law_fraction : Stmt := top 28
abbrev s__law_plus : Stmt := top 29
abbrev s__law_times : Stmt := top 30
abbrev s__law_over : Stmt := top 31
abbrev s__law_less : Stmt := top 32
abbrev s__law_minus : Stmt := top 33
abbrev s__law_whole : Stmt := top 34
abbrev s__law_moon : Stmt := top 35
abbrev s__law_floor : Stmt := top 36
abbrev s__law_new : Stmt := top 37
abbrev s__law_is_going_on : Stmt := top 38
abbrev s__law_are_moons_right : Stmt := top 39
abbrev s__law_are_changes_right : Stmt := top 40
abbrev s_law : Stmt := top 41
/-- what the top has left -/
structure Fx (K : PySem.W.Frag) (mg : Str → Option Value) where
  a_divisor_of : Addr
  d_divisor_of : FuncData
  D_divisor_of : FunD K "divisor_of" "divisor_of" (defArgs s_divisor_of) (defBody s_divisor_of) (defScope s_divisor_of) [] [] a_divisor_of d_divisor_of
  m_divisor_of : mg "divisor_of" = some (.ref a_divisor_of)
  a_fraction : Addr
  d_fraction : FuncData
  D_fraction : FunD K "fraction" "fraction" (defArgs s_fraction) (defBody s_fraction) (defScope s_fraction) [] [] a_fraction d_fraction
  m_fraction : mg "fraction" = some (.ref a_fraction)
  a_plus_of : Addr
  d_plus_of : FuncData
  D_plus_of : FunD K "plus_of" "plus_of" (defArgs s_plus_of) (defBody s_plus_of) (defScope s_plus_of) [] [] a_plus_of d_plus_of
  m_plus_of : mg "plus_of" = some (.ref a_plus_of)
  a_minus_of : Addr
  d_minus_of : FuncData
  D_minus_of : FunD K "minus_of" "minus_of" (defArgs s_minus_of) (defBody s_minus_of) (defScope s_minus_of) [] [] a_minus_of d_minus_of
  m_minus_of : mg "minus_of" = some (.ref a_minus_of)
  a_times_of : Addr
  d_times_of : FuncData
  D_times_of : FunD K "times_of" "times_of" (defArgs s_times_of) (defBody s_times_of) (defScope s_times_of) [] [] a_times_of d_times_of
  m_times_of : mg "times_of" = some (.ref a_times_of)
  a_divided_by : Addr
  d_divided_by : FuncData
  D_divided_by : FunD K "divided_by" "divided_by" (defArgs s_divided_by) (defBody s_divided_by) (defScope s_divided_by) [] [] a_divided_by d_divided_by
  m_divided_by : mg "divided_by" = some (.ref a_divided_by)
  a_floor_of : Addr
  d_floor_of : FuncData
  D_floor_of : FunD K "floor_of" "floor_of" (defArgs s_floor_of) (defBody s_floor_of) (defScope s_floor_of) [] [] a_floor_of d_floor_of
  m_floor_of : mg "floor_of" = some (.ref a_floor_of)
  a_rounds_by : Addr
  d_rounds_by : FuncData
  D_rounds_by : FunD K "rounds_by" "rounds_by" (defArgs s_rounds_by) (defBody s_rounds_by) (defScope s_rounds_by) [] [] a_rounds_by d_rounds_by
  m_rounds_by : mg "rounds_by" = some (.ref a_rounds_by)
  a_new_of : Addr
  d_new_of : FuncData
  D_new_of : FunD K "new_of" "new_of" (defArgs s_new_of) (defBody s_new_of) (defScope s_new_of) [] [] a_new_of d_new_of
  m_new_of : mg "new_of" = some (.ref a_new_of)
  a_age_at : Addr
  d_age_at : FuncData
  D_age_at : FunD K "age_at" "age_at" (defArgs s_age_at) (defBody s_age_at) (defScope s_age_at) [] [] a_age_at d_age_at
  m_age_at : mg "age_at" = some (.ref a_age_at)
  a_quarter_at : Addr
  d_quarter_at : FuncData
  D_quarter_at : FunD K "quarter_at" "quarter_at" (defArgs s_quarter_at) (defBody s_quarter_at) (defScope s_quarter_at) [] [] a_quarter_at d_quarter_at
  m_quarter_at : mg "quarter_at" = some (.ref a_quarter_at)
  a_next_number : Addr
  d_next_number : FuncData
  D_next_number : FunD K "next_number" "next_number" (defArgs s_next_number) (defBody s_next_number) (defScope s_next_number) [] [] a_next_number d_next_number
  m_next_number : mg "next_number" = some (.ref a_next_number)
  a_next_new : Addr
  d_next_new : FuncData
  D_next_new : FunD K "next_new" "next_new" (defArgs s_next_new) (defBody s_next_new) (defScope s_next_new) [] [] a_next_new d_next_new
  m_next_new : mg "next_new" = some (.ref a_next_new)
  a_nearest_day : Addr
  d_nearest_day : FuncData
  D_nearest_day : FunD K "nearest_day" "nearest_day" (defArgs s_nearest_day) (defBody s_nearest_day) (defScope s_nearest_day) [] [] a_nearest_day d_nearest_day
  m_nearest_day : mg "nearest_day" = some (.ref a_nearest_day)
  a_spring_after : Addr
  d_spring_after : FuncData
  D_spring_after : FunD K "spring_after" "spring_after" (defArgs s_spring_after) (defBody s_spring_after) (defScope s_spring_after) [] [] a_spring_after d_spring_after
  m_spring_after : mg "spring_after" = some (.ref a_spring_after)
  a_spring_days : Addr
  d_spring_days : FuncData
  D_spring_days : FunD K "spring_days" "spring_days" (defArgs s_spring_days) (defBody s_spring_days) (defScope s_spring_days) [] [] a_spring_days d_spring_days
  m_spring_days : mg "spring_days" = some (.ref a_spring_days)
  a_is_spring : Addr
  d_is_spring : FuncData
  D_is_spring : FunD K "is_spring" "is_spring" (defArgs s_is_spring) (defBody s_is_spring) (defScope s_is_spring) [] [] a_is_spring d_is_spring
  m_is_spring : mg "is_spring" = some (.ref a_is_spring)
  a_same_age : Addr
  d_same_age : FuncData
  D_same_age : FunD K "same_age" "same_age" (defArgs s_same_age) (defBody s_same_age) (defScope s_same_age) [] [] a_same_age d_same_age
  m_same_age : mg "same_age" = some (.ref a_same_age)
  a_moons_between : Addr
  d_moons_between : FuncData
  D_moons_between : FunD K "moons_between" "moons_between" (defArgs s_moons_between) (defBody s_moons_between) (defScope s_moons_between) [] [] a_moons_between d_moons_between
  m_moons_between : mg "moons_between" = some (.ref a_moons_between)
  a__law_draws : Addr
  d__law_draws : FuncData
  D__law_draws : FunD K "_law_draws" "_law_draws" (defArgs s__law_draws) (defBody s__law_draws) (defScope s__law_draws) [] [] a__law_draws d__law_draws
  m__law_draws : mg "_law_draws" = some (.ref a__law_draws)
  a__law_take : Addr
  d__law_take : FuncData
  D__law_take : FunD K "_law_take" "_law_take" (defArgs s__law_take) (defBody s__law_take) (defScope s__law_take) [] [] a__law_take d__law_take
  m__law_take : mg "_law_take" = some (.ref a__law_take)
  a__law_cell : Addr
  d__law_cell : FuncData
  D__law_cell : FunD K "_law_cell" "_law_cell" (defArgs s__law_cell) (defBody s__law_cell) (defScope s__law_cell) [] [] a__law_cell d__law_cell
  m__law_cell : mg "_law_cell" = some (.ref a__law_cell)
  a__law_same : Addr
  d__law_same : FuncData
  D__law_same : FunD K "_law_same" "_law_same" (defArgs s__law_same) (defBody s__law_same) (defScope s__law_same) [] [] a__law_same d__law_same
  m__law_same : mg "_law_same" = some (.ref a__law_same)
  a__law_divisor : Addr
  d__law_divisor : FuncData
  D__law_divisor : FunD K "_law_divisor" "_law_divisor" (defArgs s__law_divisor) (defBody s__law_divisor) (defScope s__law_divisor) [] [] a__law_divisor d__law_divisor
  m__law_divisor : mg "_law_divisor" = some (.ref a__law_divisor)
  a__law_fraction : Addr
  d__law_fraction : FuncData
  D__law_fraction : FunD K "_law_fraction" "_law_fraction" (defArgs s__law_fraction) (defBody s__law_fraction) (defScope s__law_fraction) [] [] a__law_fraction d__law_fraction
  m__law_fraction : mg "_law_fraction" = some (.ref a__law_fraction)
  a__law_plus : Addr
  d__law_plus : FuncData
  D__law_plus : FunD K "_law_plus" "_law_plus" (defArgs s__law_plus) (defBody s__law_plus) (defScope s__law_plus) [] [] a__law_plus d__law_plus
  m__law_plus : mg "_law_plus" = some (.ref a__law_plus)
  a__law_times : Addr
  d__law_times : FuncData
  D__law_times : FunD K "_law_times" "_law_times" (defArgs s__law_times) (defBody s__law_times) (defScope s__law_times) [] [] a__law_times d__law_times
  m__law_times : mg "_law_times" = some (.ref a__law_times)
  a__law_over : Addr
  d__law_over : FuncData
  D__law_over : FunD K "_law_over" "_law_over" (defArgs s__law_over) (defBody s__law_over) (defScope s__law_over) [] [] a__law_over d__law_over
  m__law_over : mg "_law_over" = some (.ref a__law_over)
  a__law_less : Addr
  d__law_less : FuncData
  D__law_less : FunD K "_law_less" "_law_less" (defArgs s__law_less) (defBody s__law_less) (defScope s__law_less) [] [] a__law_less d__law_less
  m__law_less : mg "_law_less" = some (.ref a__law_less)
  a__law_minus : Addr
  d__law_minus : FuncData
  D__law_minus : FunD K "_law_minus" "_law_minus" (defArgs s__law_minus) (defBody s__law_minus) (defScope s__law_minus) [] [] a__law_minus d__law_minus
  m__law_minus : mg "_law_minus" = some (.ref a__law_minus)
  a__law_whole : Addr
  d__law_whole : FuncData
  D__law_whole : FunD K "_law_whole" "_law_whole" (defArgs s__law_whole) (defBody s__law_whole) (defScope s__law_whole) [] [] a__law_whole d__law_whole
  m__law_whole : mg "_law_whole" = some (.ref a__law_whole)
  a__law_moon : Addr
  d__law_moon : FuncData
  D__law_moon : FunD K "_law_moon" "_law_moon" (defArgs s__law_moon) (defBody s__law_moon) (defScope s__law_moon) [] [] a__law_moon d__law_moon
  m__law_moon : mg "_law_moon" = some (.ref a__law_moon)
  a__law_floor : Addr
  d__law_floor : FuncData
  D__law_floor : FunD K "_law_floor" "_law_floor" (defArgs s__law_floor) (defBody s__law_floor) (defScope s__law_floor) [] [] a__law_floor d__law_floor
  m__law_floor : mg "_law_floor" = some (.ref a__law_floor)
  a__law_new : Addr
  d__law_new : FuncData
  D__law_new : FunD K "_law_new" "_law_new" (defArgs s__law_new) (defBody s__law_new) (defScope s__law_new) [] [] a__law_new d__law_new
  m__law_new : mg "_law_new" = some (.ref a__law_new)
  a__law_is_going_on : Addr
  d__law_is_going_on : FuncData
  D__law_is_going_on : FunD K "_law_is_going_on" "_law_is_going_on" (defArgs s__law_is_going_on) (defBody s__law_is_going_on) (defScope s__law_is_going_on) [] [] a__law_is_going_on d__law_is_going_on
  m__law_is_going_on : mg "_law_is_going_on" = some (.ref a__law_is_going_on)
  a__law_are_moons_right : Addr
  d__law_are_moons_right : FuncData
  D__law_are_moons_right : FunD K "_law_are_moons_right" "_law_are_moons_right" (defArgs s__law_are_moons_right) (defBody s__law_are_moons_right) (defScope s__law_are_moons_right) [] [] a__law_are_moons_right d__law_are_moons_right
  m__law_are_moons_right : mg "_law_are_moons_right" = some (.ref a__law_are_moons_right)
  a__law_are_changes_right : Addr
  d__law_are_changes_right : FuncData
  D__law_are_changes_right : FunD K "_law_are_changes_right" "_law_are_changes_right" (defArgs s__law_are_changes_right) (defBody s__law_are_changes_right) (defScope s__law_are_changes_right) [] [] a__law_are_changes_right d__law_are_changes_right
  m__law_are_changes_right : mg "_law_are_changes_right" = some (.ref a__law_are_changes_right)
  a_law : Addr
  d_law : FuncData
  D_law : FunD K "law" "law" (defArgs s_law) (defBody s_law) (defScope s_law) [] [] a_law d_law
  m_law : mg "law" = some (.ref a_law)
  b_abs : mg "abs" = none
  b_bool : mg "bool" = none
  b_int : mg "int" = none
  b_isinstance : mg "isinstance" = none
  b_len : mg "len" = none
  b_list : mg "list" = none
  b_max : mg "max" = none
  b_min : mg "min" = none
  b_range : mg "range" = none
  b_sorted : mg "sorted" = none
  b_str : mg "str" = none
  b_tuple : mg "tuple" = none
  c_HALF : ∃ a, mg "HALF" = some (.ref a) ∧ TupK K a [.int 1, .int 2]
noncomputable def F_divisor_of : F := gFun 2 (gSeq (gPar 0 1 (gA1 (gBlt opAbs (gA1 (gVar 0) gA0)) (gA1 (gBlt opAbs (gA1 (gVar 1) gA0)) gA0)))
    (gSeq (gWhile (gTest (gOp opGt (gVar 1) (gC (.int 0)))) (gPar 0 1 (gA1 (gVar 1) (gA1 (gOp opMod (gVar 0) (gVar 1)) gA0))))
    (gRet (gVar 0))))
noncomputable def F_floor_of : F := gFun 1 (gRet (gOp opFdiv (gOp opIx (gVar 0) (gC (.int 0))) (gOp opIx (gVar 0) (gC (.int 1)))))
noncomputable def F__law_draws : F := gFun 10 (gSeq (gSet 2 (gOp opAdd (gComp (gIter (gVar 0)) [8, 9] (gN 9) gYes (gBlt opInt (gA1 (gVar 9) gA0))) (gOp opMul (gLst (gA1 (gC (.int 0)) gA0)) (gBlt opInt (gA1 (gOp opEq (gBlt opLen (gA1 (gVar 0) gA0)) (gC (.int 0))) gA0)))))
    (gSeq (gSetM 3 (gBlt opList (gA1 (gVar 2) gA0)))
    (gSeq (gSetM 4 (gLst gA0))
    (gSeq (gFor (gRng1 (gVar 1)) (gN 5) (gSeq (gSet 6 (gOp opMod (gVar 5) (gBlt opLen (gA1 (gVar 2) gA0))))
    (gIf (gAnd (gTest (gOp opGe (gOp opIx (gVar 2) (gVar 6)) (gOp opPow (gC (.int 10)) (gC (.int 18))))) (gTest (gOp opGt (gOp opIx (gVar 3) (gVar 6)) (gC (.int 0))))) (gSeq (gDrop (gApp (gVar 4) (gOp opMod (gBlt opInt (gA1 (gOp opIx (gVar 3) (gVar 6)) gA0)) (gC (.int 1000)))))
    (gPut (gVar 3) (gVar 6) (gOp opFdiv (gOp opIx (gVar 3) (gVar 6)) (gC (.int 1000))))) (gSeq (gSet 7 (gOp opMod (gBlt opInt (gA1 (gOp opAdd (gOp opAdd (gOp opMul (gOp opIx (gVar 2) (gVar 6)) (gC (.int 48271))) (gOp opMul (gVar 5) (gC (.int 69621)))) (gC (.int 11))) gA0)) (gC (.int 2147483647))))
    (gDrop (gApp (gVar 4) (gOp opMod (gBlt opInt (gA1 (gOp opAdd (gOp opAdd (gOp opMul (gVar 7) (gVar 7)) (gOp opMul (gC (.int 3)) (gVar 7))) (gVar 5)) gA0)) (gC (.int 1000003)))))))))
    (gSeq (gDrop (gRev (gVar 4)))
    (gRet (gVar 4)))))))
noncomputable def F__law_take : F := gFun 2 (gSeq (gIf (gTest (gOp opEq (gBlt opLen (gA1 (gVar 0) gA0)) (gC (.int 0)))) (gRet (gC (.int 0))) gNext)
    (gRet (gOp opMod (gBlt opInt (gA1 (gPop (gVar 0)) gA0)) (gVar 1))))
noncomputable def F__law_cell : F := gFun 3 (gSeq (gIf (gTest (gOp opEq (gBlt opLen (gA1 (gVar 0) gA0)) (gC (.int 0)))) (gRet (gC (.int 0))) gNext)
    (gSeq (gSet 2 (gBlt opInt (gA1 (gOp opIx (gVar 0) (gOp opMod (gBlt opInt (gA1 (gVar 1) gA0)) (gBlt opLen (gA1 (gVar 0) gA0)))) gA0)))
    (gRet (gOp opMul (gOp opMod (gBlt opAbs (gA1 (gVar 2) gA0)) (gOp opPow (gC (.int 10)) (gC (.int 28)))) (gOp opIx (gLst (gA1 (gC (.int 1)) (gA1 (gUn opNeg (gC (.int 1))) gA0))) (gBlt opInt (gA1 (gOp opLt (gVar 2) (gC (.int 0))) gA0)))))))
noncomputable def F__law_divisor : F := gFun 3 (gSeq (gPar 0 1 (gA1 (gBlt opAbs (gA1 (gVar 0) gA0)) (gA1 (gBlt opAbs (gA1 (gVar 1) gA0)) gA0)))
    (gSeq (gFor (gRng1 (gOp opAdd (gOp opAdd (gOp opMul (gC (.int 2)) (gUn opBits (gVar 0))) (gOp opMul (gC (.int 2)) (gUn opBits (gVar 1)))) (gC (.int 2)))) (gN 2) (gSeq (gIf (gTest (gOp opEq (gVar 1) (gC (.int 0)))) gBrk gNext)
    (gPar 0 1 (gA1 (gVar 1) (gA1 (gOp opMod (gBlt opInt (gA1 (gVar 0) gA0)) (gVar 1)) gA0)))))
    (gRet (gVar 0))))
noncomputable def F__law_less : F := gFun 2 (gRet (gOp opLt (gOp opMul (gOp opIx (gVar 0) (gC (.int 0))) (gOp opIx (gVar 1) (gC (.int 1)))) (gOp opMul (gOp opIx (gVar 1) (gC (.int 0))) (gOp opIx (gVar 0) (gC (.int 1))))))
noncomputable def F__law_whole : F := gFun 1 (gRet (gTup (gA1 (gVar 0) (gA1 (gC (.int 1)) gA0))))
noncomputable def F__law_floor : F := gFun 1 (gRet (gOp opFdiv (gOp opSub (gOp opIx (gVar 0) (gC (.int 0))) (gOp opMod (gBlt opInt (gA1 (gOp opIx (gVar 0) (gC (.int 0))) gA0)) (gOp opIx (gVar 0) (gC (.int 1))))) (gOp opIx (gVar 0) (gC (.int 1)))))
noncomputable def F_fraction : F := gFun 3 (gSeq (gSet 2 (gCall F_divisor_of (gA1 (gVar 0) (gA1 (gVar 1) gA0))))
    (gSeq (gIf (gTest (gOp opLt (gVar 1) (gC (.int 0)))) (gSet 2 (gUn opNeg (gVar 2))) gNext)
    (gRet (gTup (gA1 (gOp opFdiv (gVar 0) (gVar 2)) (gA1 (gOp opFdiv (gVar 1) (gVar 2)) gA0))))))
noncomputable def F__law_fraction : F := gFun 3 (gSeq (gSet 2 (gCall F__law_divisor (gA1 (gVar 0) (gA1 (gVar 1) gA0))))
    (gRet (gTup (gA1 (gOp opFdiv (gVar 0) (gVar 2)) (gA1 (gOp opFdiv (gVar 1) (gVar 2)) gA0)))))
noncomputable def F_plus_of : F := gFun 2 (gRet (gCall F_fraction (gA1 (gOp opAdd (gOp opMul (gOp opIx (gVar 0) (gC (.int 0))) (gOp opIx (gVar 1) (gC (.int 1)))) (gOp opMul (gOp opIx (gVar 1) (gC (.int 0))) (gOp opIx (gVar 0) (gC (.int 1))))) (gA1 (gOp opMul (gOp opIx (gVar 0) (gC (.int 1))) (gOp opIx (gVar 1) (gC (.int 1)))) gA0))))
noncomputable def F_minus_of : F := gFun 2 (gRet (gCall F_fraction (gA1 (gOp opSub (gOp opMul (gOp opIx (gVar 0) (gC (.int 0))) (gOp opIx (gVar 1) (gC (.int 1)))) (gOp opMul (gOp opIx (gVar 1) (gC (.int 0))) (gOp opIx (gVar 0) (gC (.int 1))))) (gA1 (gOp opMul (gOp opIx (gVar 0) (gC (.int 1))) (gOp opIx (gVar 1) (gC (.int 1)))) gA0))))
noncomputable def F_times_of : F := gFun 2 (gRet (gCall F_fraction (gA1 (gOp opMul (gOp opIx (gVar 0) (gC (.int 0))) (gOp opIx (gVar 1) (gC (.int 0)))) (gA1 (gOp opMul (gOp opIx (gVar 0) (gC (.int 1))) (gOp opIx (gVar 1) (gC (.int 1)))) gA0))))
noncomputable def F_divided_by : F := gFun 2 (gRet (gCall F_fraction (gA1 (gOp opMul (gOp opIx (gVar 0) (gC (.int 0))) (gOp opIx (gVar 1) (gC (.int 1)))) (gA1 (gOp opMul (gOp opIx (gVar 0) (gC (.int 1))) (gOp opIx (gVar 1) (gC (.int 0)))) gA0))))
noncomputable def F__law_plus : F := gFun 2 (gRet (gCall F__law_fraction (gA1 (gOp opAdd (gOp opMul (gOp opIx (gVar 0) (gC (.int 0))) (gOp opIx (gVar 1) (gC (.int 1)))) (gOp opMul (gOp opIx (gVar 1) (gC (.int 0))) (gOp opIx (gVar 0) (gC (.int 1))))) (gA1 (gOp opMul (gOp opIx (gVar 0) (gC (.int 1))) (gOp opIx (gVar 1) (gC (.int 1)))) gA0))))
noncomputable def F__law_times : F := gFun 2 (gRet (gCall F__law_fraction (gA1 (gOp opMul (gOp opIx (gVar 0) (gC (.int 0))) (gOp opIx (gVar 1) (gC (.int 0)))) (gA1 (gOp opMul (gOp opIx (gVar 0) (gC (.int 1))) (gOp opIx (gVar 1) (gC (.int 1)))) gA0))))
noncomputable def F__law_over : F := gFun 2 (gRet (gCall F__law_fraction (gA1 (gOp opMul (gOp opIx (gVar 0) (gC (.int 0))) (gOp opIx (gVar 1) (gC (.int 1)))) (gA1 (gOp opMul (gOp opIx (gVar 0) (gC (.int 1))) (gOp opIx (gVar 1) (gC (.int 0)))) gA0))))
noncomputable def F__law_moon : F := gFun 3 (gSeq (gSet 2 (gCall F__law_fraction (gA1 (gOp opAdd (gOp opSub (gCall F__law_take (gA1 (gVar 0) (gA1 (gC (.int 200)) gA0))) (gC (.int 60))) (gOp opMul (gCall F__law_cell (gA1 (gVar 1) (gA1 (gC (.int 1)) gA0))) (gBlt opInt (gA1 (gOp opEq (gCall F__law_take (gA1 (gVar 0) (gA1 (gC (.int 6)) gA0))) (gC (.int 0))) gA0)))) (gA1 (gOp opAdd (gC (.int 1)) (gCall F__law_take (gA1 (gVar 0) (gA1 (gC (.int 6)) gA0)))) gA0))))
    (gRet (gTup (gA1 (gVar 2) (gA1 (gCall F__law_fraction (gA1 (gOp opAdd (gC (.int 7)) (gCall F__law_take (gA1 (gVar 0) (gA1 (gC (.int 200)) gA0)))) (gA1 (gOp opAdd (gC (.int 1)) (gCall F__law_take (gA1 (gVar 0) (gA1 (gC (.int 7)) gA0)))) gA0))) gA0)))))
noncomputable def F_rounds_by : F := gFun 3 (gRet (gCall F_floor_of (gA1 (gCall F_divided_by (gA1 (gCall F_minus_of (gA1 (gCall F_fraction (gA1 (gVar 2) (gA1 (gC (.int 1)) gA0))) (gA1 (gVar 0) gA0))) (gA1 (gVar 1) gA0))) gA0)))
noncomputable def F_new_of : F := gFun 3 (gRet (gCall F_plus_of (gA1 (gVar 0) (gA1 (gCall F_times_of (gA1 (gVar 1) (gA1 (gCall F_fraction (gA1 (gVar 2) (gA1 (gC (.int 1)) gA0))) gA0))) gA0))))
noncomputable def F_nearest_day : F := gFun 1 (gRet (gUn opNeg (gCall F_floor_of (gA1 (gCall F_minus_of (gA1 (gC (.frt [.int 1, .int 2])) (gA1 (gVar 0) gA0))) gA0))))
noncomputable def F__law_minus : F := gFun 2 (gRet (gCall F__law_plus (gA1 (gVar 0) (gA1 (gTup (gA1 (gOp opSub (gC (.int 0)) (gOp opIx (gVar 1) (gC (.int 0)))) (gA1 (gOp opIx (gVar 1) (gC (.int 1))) gA0))) gA0))))
noncomputable def F__law_new : F := gFun 3 (gRet (gCall F__law_plus (gA1 (gVar 0) (gA1 (gCall F__law_times (gA1 (gVar 1) (gA1 (gVar 2) gA0))) gA0))))
noncomputable def F_age_at : F := gFun 3 (gRet (gCall F_minus_of (gA1 (gCall F_fraction (gA1 (gVar 2) (gA1 (gC (.int 1)) gA0))) (gA1 (gCall F_new_of (gA1 (gVar 0) (gA1 (gVar 1) (gA1 (gCall F_rounds_by (gA1 (gVar 0) (gA1 (gVar 1) (gA1 (gVar 2) gA0)))) gA0)))) gA0))))
noncomputable def F_next_number : F := gFun 4 (gSeq (gSet 3 (gCall F_rounds_by (gA1 (gVar 0) (gA1 (gVar 1) (gA1 (gVar 2) gA0)))))
    (gRet (gIfE (gTest (gOp opEq (gCall F_new_of (gA1 (gVar 0) (gA1 (gVar 1) (gA1 (gVar 3) gA0)))) (gCall F_fraction (gA1 (gVar 2) (gA1 (gC (.int 1)) gA0))))) (gVar 3) (gOp opAdd (gVar 3) (gC (.int 1))))))
noncomputable def F_spring_after : F := gFun 3 (gRet (gCall F_nearest_day (gA1 (gCall F_plus_of (gA1 (gVar 0) (gA1 (gCall F_times_of (gA1 (gVar 2) (gA1 (gVar 1) gA0))) gA0))) gA0)))
noncomputable def F_quarter_at : F := gFun 3 (gRet (gCall F_floor_of (gA1 (gCall F_divided_by (gA1 (gCall F_times_of (gA1 (gTup (gA1 (gC (.int 4)) (gA1 (gC (.int 1)) gA0))) (gA1 (gCall F_age_at (gA1 (gVar 0) (gA1 (gVar 1) (gA1 (gVar 2) gA0)))) gA0))) (gA1 (gVar 1) gA0))) gA0)))
noncomputable def F_next_new : F := gFun 3 (gRet (gCall F_new_of (gA1 (gVar 0) (gA1 (gVar 1) (gA1 (gCall F_next_number (gA1 (gVar 0) (gA1 (gVar 1) (gA1 (gVar 2) gA0)))) gA0)))))
noncomputable def F_spring_days : F := gFun 7 (gSeq (gSetM 4 gNewK)
    (gSeq (gSet 5 (gOp opSub (gOp opMul (gC (.int 2)) (gCall F_rounds_by (gA1 (gVar 0) (gA1 (gVar 1) (gA1 (gVar 2) gA0))))) (gC (.int 2))))
    (gSeq (gSet 6 (gCall F_spring_after (gA1 (gVar 0) (gA1 (gVar 1) (gA1 (gCall F_fraction (gA1 (gVar 5) (gA1 (gC (.int 2)) gA0))) gA0)))))
    (gSeq (gWhile (gTest (gOp opLt (gVar 6) (gVar 3))) (gSeq (gIf (gTest (gOp opGe (gVar 6) (gVar 2))) (gPut (gVar 4) (gVar 6) (gC (.bl true))) gNext)
    (gSeq (gSet 5 (gOp iAdd (gVar 5) (gC (.int 1))))
    (gSet 6 (gCall F_spring_after (gA1 (gVar 0) (gA1 (gVar 1) (gA1 (gCall F_fraction (gA1 (gVar 5) (gA1 (gC (.int 2)) gA0))) gA0))))))))
    (gRet (gBlt opTuple (gA1 (gBlt opSorted (gA1 (gVar 4) gA0)) gA0)))))))
noncomputable def F_same_age : F := gFun 4 (gRet (gOp opEq (gCall F_age_at (gA1 (gVar 0) (gA1 (gVar 1) (gA1 (gVar 2) gA0)))) (gCall F_age_at (gA1 (gVar 0) (gA1 (gVar 1) (gA1 (gVar 3) gA0))))))
noncomputable def F_moons_between : F := gFun 4 (gRet (gBlt opMax2 (gA1 (gOp opSub (gCall F_next_number (gA1 (gVar 0) (gA1 (gVar 1) (gA1 (gVar 3) gA0)))) (gCall F_next_number (gA1 (gVar 0) (gA1 (gVar 1) (gA1 (gVar 2) gA0))))) (gA1 (gC (.int 0)) gA0))))
noncomputable def F_is_spring : F := gFun 4 (gRet (gOp opGt (gBlt opLen (gA1 (gCall F_spring_days (gA1 (gVar 0) (gA1 (gVar 1) (gA1 (gOp opSub (gVar 2) (gVar 3)) (gA1 (gOp opAdd (gOp opAdd (gVar 2) (gVar 3)) (gC (.int 1))) gA0))))) gA0)) (gC (.int 0))))
noncomputable def F__law_is_going_on : F := gFun 8 (gSeq (gFor (gRngA (gVar 2) (gOp opAdd (gVar 2) (gC (.int 30)))) (gN 3) (gSeq (gSet 4 (gCall F_age_at (gA1 (gVar 0) (gA1 (gVar 1) (gA1 (gVar 3) gA0)))))
    (gSeq (gSet 5 (gCall F_age_at (gA1 (gVar 0) (gA1 (gVar 1) (gA1 (gOp opAdd (gVar 3) (gC (.int 1))) gA0)))))
    (gSeq (gSet 6 (gCall F__law_plus (gA1 (gVar 4) (gA1 (gTup (gA1 (gC (.int 1)) (gA1 (gC (.int 1)) gA0))) gA0))))
    (gSeq (gSet 7 (gCall F_moons_between (gA1 (gVar 0) (gA1 (gVar 1) (gA1 (gOp opAdd (gVar 3) (gC (.int 1))) (gA1 (gOp opAdd (gVar 3) (gC (.int 2))) gA0))))))
    (gSeq (gIf (gTest (gCall F__law_less (gA1 (gVar 6) (gA1 (gVar 1) gA0)))) (gIf (gTest (gOp opNe (gVar 5) (gVar 6))) (gRet (gC (.bl false))) gNext) (gIf (gTest (gOp opNe (gVar 5) (gCall F__law_minus (gA1 (gVar 6) (gA1 (gCall F__law_times (gA1 (gVar 1) (gA1 (gCall F__law_whole (gA1 (gCall F__law_floor (gA1 (gCall F__law_over (gA1 (gVar 6) (gA1 (gVar 1) gA0))) gA0)) gA0)) gA0))) gA0))))) (gRet (gC (.bl false))) gNext))
    (gSeq (gIf (gAnd (gTest (gCall F__law_less (gA1 (gTup (gA1 (gC (.int 4)) (gA1 (gC (.int 1)) gA0))) (gA1 (gVar 1) gA0)))) (gTest (gOp opGt (gOp opMod (gOp opSub (gCall F_quarter_at (gA1 (gVar 0) (gA1 (gVar 1) (gA1 (gOp opAdd (gVar 3) (gC (.int 1))) gA0)))) (gCall F_quarter_at (gA1 (gVar 0) (gA1 (gVar 1) (gA1 (gVar 3) gA0))))) (gC (.int 4))) (gC (.int 1))))) (gRet (gC (.bl false))) gNext)
    (gIf (gOr (gTest (gOp opNe (gOp opEq (gVar 5) (gTup (gA1 (gC (.int 0)) (gA1 (gC (.int 1)) gA0)))) (gOp opEq (gCall F_next_new (gA1 (gVar 0) (gA1 (gVar 1) (gA1 (gOp opAdd (gVar 3) (gC (.int 1))) gA0)))) (gCall F__law_whole (gA1 (gOp opAdd (gVar 3) (gC (.int 1))) gA0))))) (gAnd (gTest (gOp opEq (gVar 5) (gTup (gA1 (gC (.int 0)) (gA1 (gC (.int 1)) gA0))))) (gTest (gOp opEq (gVar 7) (gC (.int 0)))))) (gRet (gC (.bl false))) gNext))))))))
    (gRet (gC (.bl true))))
noncomputable def F__law_are_moons_right : F := gFun 13 (gSeq (gSet 5 (gOp opAdd (gVar 3) (gCall F__law_take (gA1 (gVar 0) (gA1 (gOp opAdd (gOp opSub (gVar 4) (gVar 3)) (gC (.int 1))) gA0)))))
    (gSeq (gSet 6 (gCall F_moons_between (gA1 (gVar 1) (gA1 (gVar 2) (gA1 (gVar 3) (gA1 (gVar 4) gA0))))))
    (gSeq (gIf (gTest (gOp opNe (gOp opAdd (gCall F_moons_between (gA1 (gVar 1) (gA1 (gVar 2) (gA1 (gVar 3) (gA1 (gVar 5) gA0))))) (gCall F_moons_between (gA1 (gVar 1) (gA1 (gVar 2) (gA1 (gVar 5) (gA1 (gVar 4) gA0)))))) (gVar 6))) (gRet (gC (.bl false))) gNext)
    (gSeq (gSet 7 (gCall F__law_floor (gA1 (gCall F__law_over (gA1 (gCall F__law_whole (gA1 (gOp opSub (gVar 4) (gVar 3)) gA0)) (gA1 (gVar 2) gA0))) gA0)))
    (gSeq (gIf (gNot (gTest (gChain opLe opLe (gVar 7) (gVar 6) (gOp opAdd (gVar 7) (gC (.int 1)))))) (gRet (gC (.bl false))) gNext)
    (gSeq (gSet 8 (gCall F_spring_days (gA1 (gVar 1) (gA1 (gVar 2) (gA1 (gVar 3) (gA1 (gVar 4) gA0))))))
    (gSeq (gIf (gOr (gNot (gTest (gIsi "tuple" (gVar 8)))) (gTest (gOp opNe (gOp opAdd (gCall F_spring_days (gA1 (gVar 1) (gA1 (gVar 2) (gA1 (gVar 3) (gA1 (gVar 5) gA0))))) (gCall F_spring_days (gA1 (gVar 1) (gA1 (gVar 2) (gA1 (gVar 5) (gA1 (gVar 4) gA0)))))) (gVar 8)))) (gRet (gC (.bl false))) gNext)
    (gSeq (gFor (gRng2 (gVar 3) (gBlt opMin2 (gA1 (gVar 4) (gA1 (gOp opAdd (gVar 3) (gC (.int 40))) gA0)))) (gN 9) (gIf (gTest (gOp opNe (gCall F_is_spring (gA1 (gVar 1) (gA1 (gVar 2) (gA1 (gVar 9) (gA1 (gC (.int 0)) gA0))))) (gOp (opIn false) (gVar 9) (gVar 8)))) (gRet (gC (.bl false))) gNext))
    (gSeq (gSet 10 (gCall F_next_new (gA1 (gVar 1) (gA1 (gVar 2) (gA1 (gVar 3) gA0)))))
    (gSeq (gFor (gRng1 (gC (.int 3))) (gN 11) (gSeq (gSet 12 (gCall F_next_new (gA1 (gVar 1) (gA1 (gVar 2) (gA1 (gOp opAdd (gCall F__law_floor (gA1 (gVar 10) gA0)) (gC (.int 1))) gA0)))))
    (gSeq (gIf (gAnd (gTest (gCall F__law_less (gA1 (gTup (gA1 (gC (.int 1)) (gA1 (gC (.int 1)) gA0))) (gA1 (gVar 2) gA0)))) (gAnd (gTest (gOp opNe (gVar 12) (gCall F__law_plus (gA1 (gVar 10) (gA1 (gVar 2) gA0))))) (gNot (gTest (gCall F__law_less (gA1 (gVar 2) (gA1 (gTup (gA1 (gC (.int 2)) (gA1 (gC (.int 1)) gA0))) gA0))))))) (gRet (gC (.bl false))) gNext)
    (gSeq (gIf (gTest (gCall F__law_less (gA1 (gVar 12) (gA1 (gCall F__law_whole (gA1 (gOp opAdd (gCall F__law_floor (gA1 (gVar 10) gA0)) (gC (.int 1))) gA0)) gA0)))) (gRet (gC (.bl false))) gNext)
    (gSet 10 (gVar 12))))))
    (gRet (gC (.bl true)))))))))))))
noncomputable def F__law_same : Nat → F
  | 0 => fun _ _ => none
  | k + 1 => gFun 3 (gSeq (gIf (gTest (gOp opIs (gVar 1) (gC .non))) (gRet (gOp opIs (gVar 0) (gC .non))) gNext)
    (gSeq (gIf (gTest (gIsi "bool" (gVar 1))) (gRet (gIfE (gTest (gIsi "bool" (gVar 0))) (gOp opEq (gVar 0) (gVar 1)) (gC (.bl false)))) gNext)
    (gSeq (gIf (gTest (gIsi "int" (gVar 1))) (gRet (gIfE (gTest (gIsi "int" (gVar 0))) (gIfE (gTest (gVT (gNot (gTest (gIsi "bool" (gVar 0)))))) (gOp opEq (gVar 0) (gVar 1)) (gC (.bl false))) (gC (.bl false)))) gNext)
    (gSeq (gIf (gTest (gIsi "str" (gVar 1))) (gRet (gIfE (gTest (gIsi "str" (gVar 0))) (gOp opEq (gVar 0) (gVar 1)) (gC (.bl false)))) gNext)
    (gSeq (gIf (gOr (gNot (gTest (gIsi "tuple" (gVar 0)))) (gTest (gOp opNe (gBlt opLen (gA1 (gVar 0) gA0)) (gBlt opLen (gA1 (gVar 1) gA0))))) (gRet (gC (.bl false))) gNext)
    (gSeq (gFor (gRng1 (gBlt opLen (gA1 (gVar 1) gA0))) (gN 2) (gIf (gNot (gTest (gCall (F__law_same k) (gA1 (gOp opIx (gVar 0) (gVar 2)) (gA1 (gOp opIx (gVar 1) (gVar 2)) gA0))))) (gRet (gC (.bl false))) gNext))
    (gRet (gC (.bl true)))))))))
noncomputable def F__law_are_changes_right : F := gFun 13 (gSeq (gSet 6 (gOp opSub (gCall F__law_take (gA1 (gVar 0) (gA1 (gC (.int 9)) gA0))) (gC (.int 4))))
    (gSeq (gSet 7 (gCall F__law_new (gA1 (gVar 2) (gA1 (gVar 3) (gA1 (gCall F__law_whole (gA1 (gVar 6) gA0)) gA0)))))
    (gSeq (gSet 8 (gCall F__law_cell (gA1 (gVar 1) (gA1 (gC (.int 2)) gA0))))
    (gSeq (gSet 9 (gCall F__law_plus (gA1 (gVar 2) (gA1 (gCall F__law_whole (gA1 (gVar 8) gA0)) gA0))))
    (gSeq (gFor (gRngA (gVar 4) (gOp opAdd (gVar 4) (gC (.int 12)))) (gN 10) (gSeq (gIf (gOr (gTest (gOp opNe (gCall F_age_at (gA1 (gVar 7) (gA1 (gVar 3) (gA1 (gVar 10) gA0)))) (gCall F_age_at (gA1 (gVar 2) (gA1 (gVar 3) (gA1 (gVar 10) gA0)))))) (gTest (gOp opNe (gCall F_age_at (gA1 (gVar 9) (gA1 (gVar 3) (gA1 (gOp opAdd (gVar 10) (gVar 8)) gA0)))) (gCall F_age_at (gA1 (gVar 2) (gA1 (gVar 3) (gA1 (gVar 10) gA0))))))) (gRet (gC (.bl false))) gNext)
    (gIf (gOr (gTest (gOp opNe (gCall F_next_new (gA1 (gVar 7) (gA1 (gVar 3) (gA1 (gVar 10) gA0)))) (gCall F_next_new (gA1 (gVar 2) (gA1 (gVar 3) (gA1 (gVar 10) gA0)))))) (gTest (gOp opNe (gCall F_quarter_at (gA1 (gVar 9) (gA1 (gVar 3) (gA1 (gOp opAdd (gVar 10) (gVar 8)) gA0)))) (gCall F_quarter_at (gA1 (gVar 2) (gA1 (gVar 3) (gA1 (gVar 10) gA0))))))) (gRet (gC (.bl false))) gNext)))
    (gSeq (gIf (gTest (gOp opNe (gCall F_spring_days (gA1 (gVar 7) (gA1 (gVar 3) (gA1 (gVar 4) (gA1 (gVar 5) gA0))))) (gCall F_spring_days (gA1 (gVar 2) (gA1 (gVar 3) (gA1 (gVar 4) (gA1 (gVar 5) gA0))))))) (gRet (gC (.bl false))) gNext)
    (gSeq (gSet 11 (gBlt opTuple (gA1 (gComp (gIter (gCall F_spring_days (gA1 (gVar 2) (gA1 (gVar 3) (gA1 (gVar 4) (gA1 (gVar 5) gA0)))))) [12, 10] (gN 10) gYes (gOp opAdd (gVar 10) (gVar 8))) gA0)))
    (gRet (gIfE (gTest (gCall (F__law_same 12) (gA1 (gCall F_spring_days (gA1 (gVar 9) (gA1 (gVar 3) (gA1 (gOp opAdd (gVar 4) (gVar 8)) (gA1 (gOp opAdd (gVar 5) (gVar 8)) gA0))))) (gA1 (gVar 11) gA0)))) (gOp opEq (gCall F_moons_between (gA1 (gVar 9) (gA1 (gVar 3) (gA1 (gOp opAdd (gVar 4) (gVar 8)) (gA1 (gOp opAdd (gVar 5) (gVar 8)) gA0))))) (gCall F_moons_between (gA1 (gVar 2) (gA1 (gVar 3) (gA1 (gVar 4) (gA1 (gVar 5) gA0)))))) (gC (.bl false)))))))))))
noncomputable def F_law : F := gFun 11 (gSeq (gSetM 1 (gCall F__law_draws (gA1 (gVar 0) (gA1 (gC (.int 500)) gA0))))
    (gSeq (gFor (gRng1 (gC (.int 2))) (gN 2) (gSeq (gAsg (gCall F__law_moon (gA1 (gVar 1) (gA1 (gLst (gA1 (gC (.int 0)) gA0)) gA0))) (gNT 2 (gN1 (gN 3) (gN1 (gN 4) gN0))))
    (gSeq (gSet 5 (gOp opSub (gCall F__law_take (gA1 (gVar 1) (gA1 (gC (.int 200)) gA0))) (gC (.int 80))))
    (gSeq (gSet 6 (gOp opAdd (gVar 5) (gCall F__law_take (gA1 (gVar 1) (gA1 (gOp opIx (gLst (gA1 (gC (.int 61)) (gA1 (gC (.int 200)) gA0))) (gBlt opInt (gA1 (gOp opEq (gCall F__law_take (gA1 (gVar 1) (gA1 (gC (.int 8)) gA0))) (gC (.int 0))) gA0))) gA0)))))
    (gSeq (gIf (gOr (gNot (gTest (gCall F__law_is_going_on (gA1 (gVar 3) (gA1 (gVar 4) (gA1 (gVar 5) gA0)))))) (gNot (gTest (gCall F__law_are_moons_right (gA1 (gVar 1) (gA1 (gVar 3) (gA1 (gVar 4) (gA1 (gVar 5) (gA1 (gVar 6) gA0))))))))) (gRet (gC (.bl false))) gNext)
    (gSeq (gIf (gNot (gTest (gCall F__law_are_changes_right (gA1 (gVar 1) (gA1 (gVar 0) (gA1 (gVar 3) (gA1 (gVar 4) (gA1 (gVar 5) (gA1 (gVar 6) gA0))))))))) (gRet (gC (.bl false))) gNext)
    (gFor (gRng1 (gC (.int 4))) (gN 7) (gSeq (gSet 8 (gCall F__law_take (gA1 (gVar 1) (gA1 (gC (.int 100)) gA0))))
    (gSeq (gSet 9 (gOp opAdd (gVar 8) (gOp opIx (gLst (gA1 (gOp opMul (gOp opIx (gVar 4) (gC (.int 0))) (gCall F__law_take (gA1 (gVar 1) (gA1 (gC (.int 3)) gA0)))) (gA1 (gCall F__law_take (gA1 (gVar 1) (gA1 (gC (.int 90)) gA0))) gA0))) (gCall F__law_take (gA1 (gVar 1) (gA1 (gC (.int 2)) gA0))))))
    (gSeq (gSet 10 (gCall F__law_over (gA1 (gCall F__law_whole (gA1 (gOp opSub (gVar 9) (gVar 8)) gA0)) (gA1 (gVar 4) gA0))))
    (gIf (gOr (gNot (gTest (gCall (F__law_same 12) (gA1 (gCall F_same_age (gA1 (gVar 3) (gA1 (gVar 4) (gA1 (gVar 8) (gA1 (gVar 9) gA0))))) (gA1 (gOp opEq (gOp opIx (gVar 10) (gC (.int 1))) (gC (.int 1))) gA0))))) (gTest (gOp opIsn (gCall F_same_age (gA1 (gVar 3) (gA1 (gVar 4) (gA1 (gVar 8) (gA1 (gVar 8) gA0))))) (gC (.bl true))))) (gRet (gC (.bl false))) gNext)))))))))))
    (gSeq (gIf (gOr (gNot (gTest (gCall (F__law_same 12) (gA1 (gCall F_spring_days (gA1 (gTup (gA1 (gC (.int 1)) (gA1 (gC (.int 2)) gA0))) (gA1 (gTup (gA1 (gC (.int 4)) (gA1 (gC (.int 1)) gA0))) (gA1 (gC (.int 0)) (gA1 (gC (.int 9)) gA0))))) (gA1 (gTup (gA1 (gC (.int 0)) (gA1 (gC (.int 2)) (gA1 (gC (.int 4)) (gA1 (gC (.int 6)) (gA1 (gC (.int 8)) gA0)))))) gA0))))) (gNot (gTest (gCall (F__law_same 12) (gA1 (gCall F_moons_between (gA1 (gTup (gA1 (gC (.int 0)) (gA1 (gC (.int 1)) gA0))) (gA1 (gTup (gA1 (gC (.int 7)) (gA1 (gC (.int 2)) gA0))) (gA1 (gC (.int 0)) (gA1 (gC (.int 8)) gA0))))) (gA1 (gC (.int 3)) gA0)))))) (gRet (gC (.bl false))) gNext)
    (gRet (gIfE (gTest (gCall (F__law_same 12) (gA1 (gCall F_age_at (gA1 (gTup (gA1 (gC (.int 0)) (gA1 (gC (.int 1)) gA0))) (gA1 (gTup (gA1 (gC (.int 7)) (gA1 (gC (.int 2)) gA0))) (gA1 (gC (.int 4)) gA0)))) (gA1 (gTup (gA1 (gC (.int 1)) (gA1 (gC (.int 2)) gA0))) gA0)))) (gIfE (gTest (gCall (F__law_same 12) (gA1 (gCall F_same_age (gA1 (gTup (gA1 (gC (.int 5)) (gA1 (gC (.int 3)) gA0))) (gA1 (gTup (gA1 (gC (.int 7)) (gA1 (gC (.int 2)) gA0))) (gA1 (gC (.int 1)) (gA1 (gC (.int 8)) gA0))))) (gA1 (gC (.bl true)) gA0)))) (gCall (F__law_same 12) (gA1 (gCall F_quarter_at (gA1 (gTup (gA1 (gC (.int 0)) (gA1 (gC (.int 1)) gA0))) (gA1 (gTup (gA1 (gC (.int 8)) (gA1 (gC (.int 1)) gA0))) (gA1 (gC (.int 6)) gA0)))) (gA1 (gC (.int 3)) gA0))) (gC (.bl false))) (gC (.bl false)))))))
section
variable {P : Program} {w : World} {K : PySem.W.Frag} {mg : Str → Option Value} {base : Heap}
theorem sc_divisor_of : FnScope ["one", "other"] ["one", "other"] (defScope s_divisor_of) := ⟨rfl, rfl, rfl, by decide +kernel, rfl, by decide +kernel, by decide +kernel⟩
theorem bn_divisor_of (T : Fx K mg) : Binds K T.d_divisor_of ["one", "other"] [] := T.D_divisor_of.bindsN fun _ _ _ _ _ _ us hl => match us, hl with | [_, _], _ => rfl
theorem ok_divisor_of (T : Fx K mg) : FnOk P w K mg base CX0 1 T.a_divisor_of T.d_divisor_of ["one", "other"] (spOf K 2 F_divisor_of) := fn_ok T.D_divisor_of sc_divisor_of fun cdv A outer s H E hr => by
  have nd := sc_divisor_of.nd
  exact (dss_cons (ds_par nd (da_cons (d_abs T.b_abs (dv 0)) (da_cons (d_abs T.b_abs (dv 1)) da_nil)))
    (dss_cons (ds_while PassesOwn.never (t_gt (dv 1) de_int) (dss_one (ds_par nd (da_cons (dv 1) (da_cons (d_mod (dv 0) (dv 1)) da_nil)))))
    (dss_one (ds_ret (dv 0)))))
theorem sc_floor_of : FnScope ["number"] ["number"] (defScope s_floor_of) := ⟨rfl, rfl, rfl, by decide +kernel, rfl, by decide +kernel, by decide +kernel⟩
theorem bn_floor_of (T : Fx K mg) : Binds K T.d_floor_of ["number"] [] := T.D_floor_of.bindsN fun _ _ _ _ _ _ us hl => match us, hl with | [_], _ => rfl
theorem ok_floor_of (T : Fx K mg) : FnOk P w K mg base CX0 1 T.a_floor_of T.d_floor_of ["number"] (spOf K 1 F_floor_of) := fn_ok T.D_floor_of sc_floor_of fun cdv A outer s H E hr => by
  have nd := sc_floor_of.nd
  exact (dss_one (ds_ret (d_fdiv (d_ix hr (dv 0) de_int) (d_ix hr (dv 0) de_int))))
theorem sc__law_draws : FnScope ["script", "many", "cells", "rest", "draws", "k", "at", "once", ".0", "cell"] ["script", "many"] (defScope s__law_draws) := ⟨rfl, rfl, rfl, by decide +kernel, rfl, by decide +kernel, by decide +kernel⟩
theorem bn__law_draws (T : Fx K mg) : Binds K T.d__law_draws ["script", "many"] [] := T.D__law_draws.bindsN fun _ _ _ _ _ _ us hl => match us, hl with | [_, _], _ => rfl
theorem ok__law_draws (T : Fx K mg) : FnOk P w K mg base CX0 1 T.a__law_draws T.d__law_draws ["script", "many"] (spOf K 2 F__law_draws) := fn_ok T.D__law_draws sc__law_draws fun cdv A outer s H E hr => by
  have nd := sc__law_draws.nd
  exact (dss_cons (ds_set nd rfl (by first | exact .inl rfl | exact .inr rfl) (d_add (de_comp rfl nd (di_seq (dv 0)) (blkOk_by (own := [(".0", 8), ("cell", 9)]) (by kernel_rfl)) (fun _ _ _ _ _ => (dg_name nd rfl (by first | exact .inl rfl | exact .inr rfl))) (fun _ _ _ _ _ => dts_nil) (fun _ _ _ _ _ => (d_int T.b_int (dv 9))) rfl (by decide)) (d_mul (de_lst (da_cons de_int da_nil)) (d_int T.b_int (d_eq hr (d_len T.b_len (dv 0)) de_int)))))
    (dss_cons (ds_setM nd rfl (by first | exact .inl rfl | exact .inr rfl) (d_list T.b_list (dv 2)))
    (dss_cons (ds_setM nd rfl (by first | exact .inl rfl | exact .inr rfl) (de_lst da_nil))
    (dss_cons (ds_for PassesOwn.never rfl (di_range1 rfl T.b_range (dv 1)) (dg_name nd rfl (by first | exact .inl rfl | exact .inr rfl)) (dss_cons (ds_set nd rfl (by first | exact .inl rfl | exact .inr rfl) (d_mod (dv 5) (d_len T.b_len (dv 2))))
    (dss_one (ds_if (dt_w (dw_and (t_ge (d_ix hr (dv 2) (dv 6)) (d_pow de_int de_int)) (dw_and1 (t_gt (d_ix hr (dv 3) (dv 6)) de_int)))) (dss_cons (ds_expr (de_app (dv 4) (d_mod (d_int T.b_int (d_ix hr (dv 3) (dv 6))) de_int)))
    (dss_one (ds_put (hu1 hr) (dv 3) (dv 6) (d_fdiv (d_ix hr (dv 3) (dv 6)) de_int)))) (dss_cons (ds_set nd rfl (by first | exact .inl rfl | exact .inr rfl) (d_mod (d_int T.b_int (d_add (d_add (d_mul (d_ix hr (dv 2) (dv 6)) de_int) (d_mul (dv 5) de_int)) de_int)) de_int))
    (dss_one (ds_expr (de_app (dv 4) (d_mod (d_int T.b_int (d_add (d_add (d_mul (dv 7) (dv 7)) (d_mul de_int (dv 7))) (dv 5))) de_int)))))))))
    (dss_cons (ds_expr (de_rev (dv 4)))
    (dss_one (ds_ret (dv 4))))))))
theorem sc__law_take : FnScope ["draws", "many"] ["draws", "many"] (defScope s__law_take) := ⟨rfl, rfl, rfl, by decide +kernel, rfl, by decide +kernel, by decide +kernel⟩
theorem bn__law_take (T : Fx K mg) : Binds K T.d__law_take ["draws", "many"] [] := T.D__law_take.bindsN fun _ _ _ _ _ _ us hl => match us, hl with | [_, _], _ => rfl
theorem ok__law_take (T : Fx K mg) : FnOk P w K mg base CX0 1 T.a__law_take T.d__law_take ["draws", "many"] (spOf K 2 F__law_take) := fn_ok T.D__law_take sc__law_take fun cdv A outer s H E hr => by
  have nd := sc__law_take.nd
  exact (dss_cons (ds_if (t_eq hr (d_len T.b_len (dv 0)) de_int) (dss_one (ds_ret de_int)) dss_nil)
    (dss_one (ds_ret (d_mod (d_int T.b_int (de_pop (dv 0))) (dv 1)))))
theorem sc__law_cell : FnScope ["script", "at", "cell"] ["script", "at"] (defScope s__law_cell) := ⟨rfl, rfl, rfl, by decide +kernel, rfl, by decide +kernel, by decide +kernel⟩
theorem bn__law_cell (T : Fx K mg) : Binds K T.d__law_cell ["script", "at"] [] := T.D__law_cell.bindsN fun _ _ _ _ _ _ us hl => match us, hl with | [_, _], _ => rfl
theorem ok__law_cell (T : Fx K mg) : FnOk P w K mg base CX0 1 T.a__law_cell T.d__law_cell ["script", "at"] (spOf K 2 F__law_cell) := fn_ok T.D__law_cell sc__law_cell fun cdv A outer s H E hr => by
  have nd := sc__law_cell.nd
  exact (dss_cons (ds_if (t_eq hr (d_len T.b_len (dv 0)) de_int) (dss_one (ds_ret de_int)) dss_nil)
    (dss_cons (ds_set nd rfl (by first | exact .inl rfl | exact .inr rfl) (d_int T.b_int (d_ix hr (dv 0) (d_mod (d_int T.b_int (dv 1)) (d_len T.b_len (dv 0))))))
    (dss_one (ds_ret (d_mul (d_mod (d_abs T.b_abs (dv 2)) (d_pow de_int de_int)) (d_ix hr (de_lst (da_cons de_int (da_cons (d_neg de_int) da_nil))) (d_int T.b_int (d_lt (dv 2) de_int))))))))
theorem sc__law_divisor : FnScope ["one", "other", "turn"] ["one", "other"] (defScope s__law_divisor) := ⟨rfl, rfl, rfl, by decide +kernel, rfl, by decide +kernel, by decide +kernel⟩
theorem bn__law_divisor (T : Fx K mg) : Binds K T.d__law_divisor ["one", "other"] [] := T.D__law_divisor.bindsN fun _ _ _ _ _ _ us hl => match us, hl with | [_, _], _ => rfl
theorem ok__law_divisor (T : Fx K mg) : FnOk P w K mg base CX0 1 T.a__law_divisor T.d__law_divisor ["one", "other"] (spOf K 2 F__law_divisor) := fn_ok T.D__law_divisor sc__law_divisor fun cdv A outer s H E hr => by
  have nd := sc__law_divisor.nd
  exact (dss_cons (ds_par nd (da_cons (d_abs T.b_abs (dv 0)) (da_cons (d_abs T.b_abs (dv 1)) da_nil)))
    (dss_cons (ds_for PassesOwn.never rfl (di_range1 rfl T.b_range (d_add (d_add (d_mul de_int (de_bits (dv 0))) (d_mul de_int (de_bits (dv 1)))) de_int)) (dg_name nd rfl (by first | exact .inl rfl | exact .inr rfl)) (dss_cons (ds_if (t_eq hr (dv 1) de_int) (dss_one ds_brk) dss_nil)
    (dss_one (ds_par nd (da_cons (dv 1) (da_cons (d_mod (d_int T.b_int (dv 0)) (dv 1)) da_nil))))))
    (dss_one (ds_ret (dv 0)))))
theorem sc__law_less : FnScope ["one", "other"] ["one", "other"] (defScope s__law_less) := ⟨rfl, rfl, rfl, by decide +kernel, rfl, by decide +kernel, by decide +kernel⟩
theorem bn__law_less (T : Fx K mg) : Binds K T.d__law_less ["one", "other"] [] := T.D__law_less.bindsN fun _ _ _ _ _ _ us hl => match us, hl with | [_, _], _ => rfl
theorem ok__law_less (T : Fx K mg) : FnOk P w K mg base CX0 1 T.a__law_less T.d__law_less ["one", "other"] (spOf K 2 F__law_less) := fn_ok T.D__law_less sc__law_less fun cdv A outer s H E hr => by
  have nd := sc__law_less.nd
  exact (dss_one (ds_ret (d_lt (d_mul (d_ix hr (dv 0) de_int) (d_ix hr (dv 1) de_int)) (d_mul (d_ix hr (dv 1) de_int) (d_ix hr (dv 0) de_int)))))
theorem sc__law_whole : FnScope ["number"] ["number"] (defScope s__law_whole) := ⟨rfl, rfl, rfl, by decide +kernel, rfl, by decide +kernel, by decide +kernel⟩
theorem bn__law_whole (T : Fx K mg) : Binds K T.d__law_whole ["number"] [] := T.D__law_whole.bindsN fun _ _ _ _ _ _ us hl => match us, hl with | [_], _ => rfl
theorem ok__law_whole (T : Fx K mg) : FnOk P w K mg base CX0 1 T.a__law_whole T.d__law_whole ["number"] (spOf K 1 F__law_whole) := fn_ok T.D__law_whole sc__law_whole fun cdv A outer s H E hr => by
  have nd := sc__law_whole.nd
  exact (dss_one (ds_ret (de_tup (da_cons (dv 0) (da_cons de_int da_nil)))))
theorem sc__law_floor : FnScope ["number"] ["number"] (defScope s__law_floor) := ⟨rfl, rfl, rfl, by decide +kernel, rfl, by decide +kernel, by decide +kernel⟩
theorem bn__law_floor (T : Fx K mg) : Binds K T.d__law_floor ["number"] [] := T.D__law_floor.bindsN fun _ _ _ _ _ _ us hl => match us, hl with | [_], _ => rfl
theorem ok__law_floor (T : Fx K mg) : FnOk P w K mg base CX0 1 T.a__law_floor T.d__law_floor ["number"] (spOf K 1 F__law_floor) := fn_ok T.D__law_floor sc__law_floor fun cdv A outer s H E hr => by
  have nd := sc__law_floor.nd
  exact (dss_one (ds_ret (d_fdiv (d_sub (d_ix hr (dv 0) de_int) (d_mod (d_int T.b_int (d_ix hr (dv 0) de_int)) (d_ix hr (dv 0) de_int))) (d_ix hr (dv 0) de_int))))
theorem sc_fraction : FnScope ["n", "d", "divisor"] ["n", "d"] (defScope s_fraction) := ⟨rfl, rfl, rfl, by decide +kernel, rfl, by decide +kernel, by decide +kernel⟩
theorem bn_fraction (T : Fx K mg) : Binds K T.d_fraction ["n", "d"] [] := T.D_fraction.bindsN fun _ _ _ _ _ _ us hl => match us, hl with | [_, _], _ => rfl
theorem ok_fraction (T : Fx K mg) : FnOk P w K mg base CX0 2 T.a_fraction T.d_fraction ["n", "d"] (spOf K 2 F_fraction) := fn_ok T.D_fraction sc_fraction fun cdv A outer s H E hr => by
  have nd := sc_fraction.nd
  exact (dss_cons (ds_set nd rfl (by first | exact .inl rfl | exact .inr rfl) (de_call (ok_divisor_of (P := P) (w := w) (base := base) T) (hr.mono (by decide)) rfl T.m_divisor_of T.D_divisor_of.kp (bn_divisor_of T) (da_cons (dv 0) (da_cons (dv 1) da_nil)) (alen1 (alen1 alen0))))
    (dss_cons (ds_if (t_lt (dv 1) de_int) (dss_one (ds_set nd rfl (by first | exact .inl rfl | exact .inr rfl) (d_neg (dv 2)))) dss_nil)
    (dss_one (ds_ret (de_tup (da_cons (d_fdiv (dv 0) (dv 2)) (da_cons (d_fdiv (dv 1) (dv 2)) da_nil)))))))
theorem sc__law_fraction : FnScope ["n", "d", "common"] ["n", "d"] (defScope s__law_fraction) := ⟨rfl, rfl, rfl, by decide +kernel, rfl, by decide +kernel, by decide +kernel⟩
theorem bn__law_fraction (T : Fx K mg) : Binds K T.d__law_fraction ["n", "d"] [] := T.D__law_fraction.bindsN fun _ _ _ _ _ _ us hl => match us, hl with | [_, _], _ => rfl
theorem ok__law_fraction (T : Fx K mg) : FnOk P w K mg base CX0 2 T.a__law_fraction T.d__law_fraction ["n", "d"] (spOf K 2 F__law_fraction) := fn_ok T.D__law_fraction sc__law_fraction fun cdv A outer s H E hr => by
  have nd := sc__law_fraction.nd
  exact (dss_cons (ds_set nd rfl (by first | exact .inl rfl | exact .inr rfl) (de_call (ok__law_divisor (P := P) (w := w) (base := base) T) (hr.mono (by decide)) rfl T.m__law_divisor T.D__law_divisor.kp (bn__law_divisor T) (da_cons (dv 0) (da_cons (dv 1) da_nil)) (alen1 (alen1 alen0))))
    (dss_one (ds_ret (de_tup (da_cons (d_fdiv (dv 0) (dv 2)) (da_cons (d_fdiv (dv 1) (dv 2)) da_nil))))))
theorem sc_plus_of : FnScope ["one", "other"] ["one", "other"] (defScope s_plus_of) := ⟨rfl, rfl, rfl, by decide +kernel, rfl, by decide +kernel, by decide +kernel⟩
theorem bn_plus_of (T : Fx K mg) : Binds K T.d_plus_of ["one", "other"] [] := T.D_plus_of.bindsN fun _ _ _ _ _ _ us hl => match us, hl with | [_, _], _ => rfl
theorem ok_plus_of (T : Fx K mg) : FnOk P w K mg base CX0 3 T.a_plus_of T.d_plus_of ["one", "other"] (spOf K 2 F_plus_of) := fn_ok T.D_plus_of sc_plus_of fun cdv A outer s H E hr => by
  have nd := sc_plus_of.nd
  exact (dss_one (ds_ret (de_call (ok_fraction (P := P) (w := w) (base := base) T) (hr.mono (by decide)) rfl T.m_fraction T.D_fraction.kp (bn_fraction T) (da_cons (d_add (d_mul (d_ix hr (dv 0) de_int) (d_ix hr (dv 1) de_int)) (d_mul (d_ix hr (dv 1) de_int) (d_ix hr (dv 0) de_int))) (da_cons (d_mul (d_ix hr (dv 0) de_int) (d_ix hr (dv 1) de_int)) da_nil)) (alen1 (alen1 alen0)))))
theorem sc_minus_of : FnScope ["one", "other"] ["one", "other"] (defScope s_minus_of) := ⟨rfl, rfl, rfl, by decide +kernel, rfl, by decide +kernel, by decide +kernel⟩
theorem bn_minus_of (T : Fx K mg) : Binds K T.d_minus_of ["one", "other"] [] := T.D_minus_of.bindsN fun _ _ _ _ _ _ us hl => match us, hl with | [_, _], _ => rfl
theorem ok_minus_of (T : Fx K mg) : FnOk P w K mg base CX0 3 T.a_minus_of T.d_minus_of ["one", "other"] (spOf K 2 F_minus_of) := fn_ok T.D_minus_of sc_minus_of fun cdv A outer s H E hr => by
  have nd := sc_minus_of.nd
  exact (dss_one (ds_ret (de_call (ok_fraction (P := P) (w := w) (base := base) T) (hr.mono (by decide)) rfl T.m_fraction T.D_fraction.kp (bn_fraction T) (da_cons (d_sub (d_mul (d_ix hr (dv 0) de_int) (d_ix hr (dv 1) de_int)) (d_mul (d_ix hr (dv 1) de_int) (d_ix hr (dv 0) de_int))) (da_cons (d_mul (d_ix hr (dv 0) de_int) (d_ix hr (dv 1) de_int)) da_nil)) (alen1 (alen1 alen0)))))
theorem sc_times_of : FnScope ["one", "other"] ["one", "other"] (defScope s_times_of) := ⟨rfl, rfl, rfl, by decide +kernel, rfl, by decide +kernel, by decide +kernel⟩
theorem bn_times_of (T : Fx K mg) : Binds K T.d_times_of ["one", "other"] [] := T.D_times_of.bindsN fun _ _ _ _ _ _ us hl => match us, hl with | [_, _], _ => rfl
theorem ok_times_of (T : Fx K mg) : FnOk P w K mg base CX0 3 T.a_times_of T.d_times_of ["one", "other"] (spOf K 2 F_times_of) := fn_ok T.D_times_of sc_times_of fun cdv A outer s H E hr => by
  have nd := sc_times_of.nd
  exact (dss_one (ds_ret (de_call (ok_fraction (P := P) (w := w) (base := base) T) (hr.mono (by decide)) rfl T.m_fraction T.D_fraction.kp (bn_fraction T) (da_cons (d_mul (d_ix hr (dv 0) de_int) (d_ix hr (dv 1) de_int)) (da_cons (d_mul (d_ix hr (dv 0) de_int) (d_ix hr (dv 1) de_int)) da_nil)) (alen1 (alen1 alen0)))))
theorem sc_divided_by : FnScope ["one", "other"] ["one", "other"] (defScope s_divided_by) := ⟨rfl, rfl, rfl, by decide +kernel, rfl, by decide +kernel, by decide +kernel⟩
theorem bn_divided_by (T : Fx K mg) : Binds K T.d_divided_by ["one", "other"] [] := T.D_divided_by.bindsN fun _ _ _ _ _ _ us hl => match us, hl with | [_, _], _ => rfl
theorem ok_divided_by (T : Fx K mg) : FnOk P w K mg base CX0 3 T.a_divided_by T.d_divided_by ["one", "other"] (spOf K 2 F_divided_by) := fn_ok T.D_divided_by sc_divided_by fun cdv A outer s H E hr => by
  have nd := sc_divided_by.nd
  exact (dss_one (ds_ret (de_call (ok_fraction (P := P) (w := w) (base := base) T) (hr.mono (by decide)) rfl T.m_fraction T.D_fraction.kp (bn_fraction T) (da_cons (d_mul (d_ix hr (dv 0) de_int) (d_ix hr (dv 1) de_int)) (da_cons (d_mul (d_ix hr (dv 0) de_int) (d_ix hr (dv 1) de_int)) da_nil)) (alen1 (alen1 alen0)))))
theorem sc__law_plus : FnScope ["one", "other"] ["one", "other"] (defScope s__law_plus) := ⟨rfl, rfl, rfl, by decide +kernel, rfl, by decide +kernel, by decide +kernel⟩
theorem bn__law_plus (T : Fx K mg) : Binds K T.d__law_plus ["one", "other"] [] := T.D__law_plus.bindsN fun _ _ _ _ _ _ us hl => match us, hl with | [_, _], _ => rfl
theorem ok__law_plus (T : Fx K mg) : FnOk P w K mg base CX0 3 T.a__law_plus T.d__law_plus ["one", "other"] (spOf K 2 F__law_plus) := fn_ok T.D__law_plus sc__law_plus fun cdv A outer s H E hr => by
  have nd := sc__law_plus.nd
  exact (dss_one (ds_ret (de_call (ok__law_fraction (P := P) (w := w) (base := base) T) (hr.mono (by decide)) rfl T.m__law_fraction T.D__law_fraction.kp (bn__law_fraction T) (da_cons (d_add (d_mul (d_ix hr (dv 0) de_int) (d_ix hr (dv 1) de_int)) (d_mul (d_ix hr (dv 1) de_int) (d_ix hr (dv 0) de_int))) (da_cons (d_mul (d_ix hr (dv 0) de_int) (d_ix hr (dv 1) de_int)) da_nil)) (alen1 (alen1 alen0)))))
theorem sc__law_times : FnScope ["one", "other"] ["one", "other"] (defScope s__law_times) := ⟨rfl, rfl, rfl, by decide +kernel, rfl, by decide +kernel, by decide +kernel⟩
theorem bn__law_times (T : Fx K mg) : Binds K T.d__law_times ["one", "other"] [] := T.D__law_times.bindsN fun _ _ _ _ _ _ us hl => match us, hl with | [_, _], _ => rfl
theorem ok__law_times (T : Fx K mg) : FnOk P w K mg base CX0 3 T.a__law_times T.d__law_times ["one", "other"] (spOf K 2 F__law_times) := fn_ok T.D__law_times sc__law_times fun cdv A outer s H E hr => by
  have nd := sc__law_times.nd
  exact (dss_one (ds_ret (de_call (ok__law_fraction (P := P) (w := w) (base := base) T) (hr.mono (by decide)) rfl T.m__law_fraction T.D__law_fraction.kp (bn__law_fraction T) (da_cons (d_mul (d_ix hr (dv 0) de_int) (d_ix hr (dv 1) de_int)) (da_cons (d_mul (d_ix hr (dv 0) de_int) (d_ix hr (dv 1) de_int)) da_nil)) (alen1 (alen1 alen0)))))
theorem sc__law_over : FnScope ["one", "other"] ["one", "other"] (defScope s__law_over) := ⟨rfl, rfl, rfl, by decide +kernel, rfl, by decide +kernel, by decide +kernel⟩
theorem bn__law_over (T : Fx K mg) : Binds K T.d__law_over ["one", "other"] [] := T.D__law_over.bindsN fun _ _ _ _ _ _ us hl => match us, hl with | [_, _], _ => rfl
theorem ok__law_over (T : Fx K mg) : FnOk P w K mg base CX0 3 T.a__law_over T.d__law_over ["one", "other"] (spOf K 2 F__law_over) := fn_ok T.D__law_over sc__law_over fun cdv A outer s H E hr => by
  have nd := sc__law_over.nd
  exact (dss_one (ds_ret (de_call (ok__law_fraction (P := P) (w := w) (base := base) T) (hr.mono (by decide)) rfl T.m__law_fraction T.D__law_fraction.kp (bn__law_fraction T) (da_cons (d_mul (d_ix hr (dv 0) de_int) (d_ix hr (dv 1) de_int)) (da_cons (d_mul (d_ix hr (dv 0) de_int) (d_ix hr (dv 1) de_int)) da_nil)) (alen1 (alen1 alen0)))))
theorem sc__law_moon : FnScope ["draws", "script", "new"] ["draws", "script"] (defScope s__law_moon) := ⟨rfl, rfl, rfl, by decide +kernel, rfl, by decide +kernel, by decide +kernel⟩
theorem bn__law_moon (T : Fx K mg) : Binds K T.d__law_moon ["draws", "script"] [] := T.D__law_moon.bindsN fun _ _ _ _ _ _ us hl => match us, hl with | [_, _], _ => rfl
theorem ok__law_moon (T : Fx K mg) : FnOk P w K mg base CX0 3 T.a__law_moon T.d__law_moon ["draws", "script"] (spOf K 2 F__law_moon) := fn_ok T.D__law_moon sc__law_moon fun cdv A outer s H E hr => by
  have nd := sc__law_moon.nd
  exact (dss_cons (ds_set nd rfl (by first | exact .inl rfl | exact .inr rfl) (de_call (ok__law_fraction (P := P) (w := w) (base := base) T) (hr.mono (by decide)) rfl T.m__law_fraction T.D__law_fraction.kp (bn__law_fraction T) (da_cons (d_add (d_sub (de_call (ok__law_take (P := P) (w := w) (base := base) T) (hr.mono (by decide)) rfl T.m__law_take T.D__law_take.kp (bn__law_take T) (da_cons (dv 0) (da_cons de_int da_nil)) (alen1 (alen1 alen0))) de_int) (d_mul (de_call (ok__law_cell (P := P) (w := w) (base := base) T) (hr.mono (by decide)) rfl T.m__law_cell T.D__law_cell.kp (bn__law_cell T) (da_cons (dv 1) (da_cons de_int da_nil)) (alen1 (alen1 alen0))) (d_int T.b_int (d_eq hr (de_call (ok__law_take (P := P) (w := w) (base := base) T) (hr.mono (by decide)) rfl T.m__law_take T.D__law_take.kp (bn__law_take T) (da_cons (dv 0) (da_cons de_int da_nil)) (alen1 (alen1 alen0))) de_int)))) (da_cons (d_add de_int (de_call (ok__law_take (P := P) (w := w) (base := base) T) (hr.mono (by decide)) rfl T.m__law_take T.D__law_take.kp (bn__law_take T) (da_cons (dv 0) (da_cons de_int da_nil)) (alen1 (alen1 alen0)))) da_nil)) (alen1 (alen1 alen0))))
    (dss_one (ds_ret (de_tup (da_cons (dv 2) (da_cons (de_call (ok__law_fraction (P := P) (w := w) (base := base) T) (hr.mono (by decide)) rfl T.m__law_fraction T.D__law_fraction.kp (bn__law_fraction T) (da_cons (d_add de_int (de_call (ok__law_take (P := P) (w := w) (base := base) T) (hr.mono (by decide)) rfl T.m__law_take T.D__law_take.kp (bn__law_take T) (da_cons (dv 0) (da_cons de_int da_nil)) (alen1 (alen1 alen0)))) (da_cons (d_add de_int (de_call (ok__law_take (P := P) (w := w) (base := base) T) (hr.mono (by decide)) rfl T.m__law_take T.D__law_take.kp (bn__law_take T) (da_cons (dv 0) (da_cons de_int da_nil)) (alen1 (alen1 alen0)))) da_nil)) (alen1 (alen1 alen0))) da_nil))))))
theorem sc_rounds_by : FnScope ["new", "round_days", "day"] ["new", "round_days", "day"] (defScope s_rounds_by) := ⟨rfl, rfl, rfl, by decide +kernel, rfl, by decide +kernel, by decide +kernel⟩
theorem bn_rounds_by (T : Fx K mg) : Binds K T.d_rounds_by ["new", "round_days", "day"] [] := T.D_rounds_by.bindsN fun _ _ _ _ _ _ us hl => match us, hl with | [_, _, _], _ => rfl
theorem ok_rounds_by (T : Fx K mg) : FnOk P w K mg base CX0 4 T.a_rounds_by T.d_rounds_by ["new", "round_days", "day"] (spOf K 3 F_rounds_by) := fn_ok T.D_rounds_by sc_rounds_by fun cdv A outer s H E hr => by
  have nd := sc_rounds_by.nd
  exact (dss_one (ds_ret (de_call (ok_floor_of (P := P) (w := w) (base := base) T) (hr.mono (by decide)) rfl T.m_floor_of T.D_floor_of.kp (bn_floor_of T) (da_cons (de_call (ok_divided_by (P := P) (w := w) (base := base) T) (hr.mono (by decide)) rfl T.m_divided_by T.D_divided_by.kp (bn_divided_by T) (da_cons (de_call (ok_minus_of (P := P) (w := w) (base := base) T) (hr.mono (by decide)) rfl T.m_minus_of T.D_minus_of.kp (bn_minus_of T) (da_cons (de_call (ok_fraction (P := P) (w := w) (base := base) T) (hr.mono (by decide)) rfl T.m_fraction T.D_fraction.kp (bn_fraction T) (da_cons (dv 2) (da_cons de_int da_nil)) (alen1 (alen1 alen0))) (da_cons (dv 0) da_nil)) (alen1 (alen1 alen0))) (da_cons (dv 1) da_nil)) (alen1 (alen1 alen0))) da_nil) (alen1 alen0))))
theorem sc_new_of : FnScope ["new", "round_days", "number"] ["new", "round_days", "number"] (defScope s_new_of) := ⟨rfl, rfl, rfl, by decide +kernel, rfl, by decide +kernel, by decide +kernel⟩
theorem bn_new_of (T : Fx K mg) : Binds K T.d_new_of ["new", "round_days", "number"] [] := T.D_new_of.bindsN fun _ _ _ _ _ _ us hl => match us, hl with | [_, _, _], _ => rfl
theorem ok_new_of (T : Fx K mg) : FnOk P w K mg base CX0 4 T.a_new_of T.d_new_of ["new", "round_days", "number"] (spOf K 3 F_new_of) := fn_ok T.D_new_of sc_new_of fun cdv A outer s H E hr => by
  have nd := sc_new_of.nd
  exact (dss_one (ds_ret (de_call (ok_plus_of (P := P) (w := w) (base := base) T) (hr.mono (by decide)) rfl T.m_plus_of T.D_plus_of.kp (bn_plus_of T) (da_cons (dv 0) (da_cons (de_call (ok_times_of (P := P) (w := w) (base := base) T) (hr.mono (by decide)) rfl T.m_times_of T.D_times_of.kp (bn_times_of T) (da_cons (dv 1) (da_cons (de_call (ok_fraction (P := P) (w := w) (base := base) T) (hr.mono (by decide)) rfl T.m_fraction T.D_fraction.kp (bn_fraction T) (da_cons (dv 2) (da_cons de_int da_nil)) (alen1 (alen1 alen0))) da_nil)) (alen1 (alen1 alen0))) da_nil)) (alen1 (alen1 alen0)))))
theorem sc_nearest_day : FnScope ["time"] ["time"] (defScope s_nearest_day) := ⟨rfl, rfl, rfl, by decide +kernel, rfl, by decide +kernel, by decide +kernel⟩
theorem bn_nearest_day (T : Fx K mg) : Binds K T.d_nearest_day ["time"] [] := T.D_nearest_day.bindsN fun _ _ _ _ _ _ us hl => match us, hl with | [_], _ => rfl
theorem ok_nearest_day (T : Fx K mg) : FnOk P w K mg base CX0 4 T.a_nearest_day T.d_nearest_day ["time"] (spOf K 1 F_nearest_day) := fn_ok T.D_nearest_day sc_nearest_day fun cdv A outer s H E hr => by
  have nd := sc_nearest_day.nd
  exact (dss_one (ds_ret (d_neg (de_call (ok_floor_of (P := P) (w := w) (base := base) T) (hr.mono (by decide)) rfl T.m_floor_of T.D_floor_of.kp (bn_floor_of T) (da_cons (de_call (ok_minus_of (P := P) (w := w) (base := base) T) (hr.mono (by decide)) rfl T.m_minus_of T.D_minus_of.kp (bn_minus_of T) (da_cons (de_gtup rfl T.c_HALF) (da_cons (dv 0) da_nil)) (alen1 (alen1 alen0))) da_nil) (alen1 alen0)))))
theorem sc__law_minus : FnScope ["one", "other"] ["one", "other"] (defScope s__law_minus) := ⟨rfl, rfl, rfl, by decide +kernel, rfl, by decide +kernel, by decide +kernel⟩
theorem bn__law_minus (T : Fx K mg) : Binds K T.d__law_minus ["one", "other"] [] := T.D__law_minus.bindsN fun _ _ _ _ _ _ us hl => match us, hl with | [_, _], _ => rfl
theorem ok__law_minus (T : Fx K mg) : FnOk P w K mg base CX0 4 T.a__law_minus T.d__law_minus ["one", "other"] (spOf K 2 F__law_minus) := fn_ok T.D__law_minus sc__law_minus fun cdv A outer s H E hr => by
  have nd := sc__law_minus.nd
  exact (dss_one (ds_ret (de_call (ok__law_plus (P := P) (w := w) (base := base) T) (hr.mono (by decide)) rfl T.m__law_plus T.D__law_plus.kp (bn__law_plus T) (da_cons (dv 0) (da_cons (de_tup (da_cons (d_sub de_int (d_ix hr (dv 1) de_int)) (da_cons (d_ix hr (dv 1) de_int) da_nil))) da_nil)) (alen1 (alen1 alen0)))))
theorem sc__law_new : FnScope ["new", "turn", "number"] ["new", "turn", "number"] (defScope s__law_new) := ⟨rfl, rfl, rfl, by decide +kernel, rfl, by decide +kernel, by decide +kernel⟩
theorem bn__law_new (T : Fx K mg) : Binds K T.d__law_new ["new", "turn", "number"] [] := T.D__law_new.bindsN fun _ _ _ _ _ _ us hl => match us, hl with | [_, _, _], _ => rfl
theorem ok__law_new (T : Fx K mg) : FnOk P w K mg base CX0 4 T.a__law_new T.d__law_new ["new", "turn", "number"] (spOf K 3 F__law_new) := fn_ok T.D__law_new sc__law_new fun cdv A outer s H E hr => by
  have nd := sc__law_new.nd
  exact (dss_one (ds_ret (de_call (ok__law_plus (P := P) (w := w) (base := base) T) (hr.mono (by decide)) rfl T.m__law_plus T.D__law_plus.kp (bn__law_plus T) (da_cons (dv 0) (da_cons (de_call (ok__law_times (P := P) (w := w) (base := base) T) (hr.mono (by decide)) rfl T.m__law_times T.D__law_times.kp (bn__law_times T) (da_cons (dv 1) (da_cons (dv 2) da_nil)) (alen1 (alen1 alen0))) da_nil)) (alen1 (alen1 alen0)))))
theorem sc_age_at : FnScope ["new", "round_days", "day"] ["new", "round_days", "day"] (defScope s_age_at) := ⟨rfl, rfl, rfl, by decide +kernel, rfl, by decide +kernel, by decide +kernel⟩
theorem bn_age_at (T : Fx K mg) : Binds K T.d_age_at ["new", "round_days", "day"] [] := T.D_age_at.bindsN fun _ _ _ _ _ _ us hl => match us, hl with | [_, _, _], _ => rfl
theorem ok_age_at (T : Fx K mg) : FnOk P w K mg base CX0 5 T.a_age_at T.d_age_at ["new", "round_days", "day"] (spOf K 3 F_age_at) := fn_ok T.D_age_at sc_age_at fun cdv A outer s H E hr => by
  have nd := sc_age_at.nd
  exact (dss_one (ds_ret (de_call (ok_minus_of (P := P) (w := w) (base := base) T) (hr.mono (by decide)) rfl T.m_minus_of T.D_minus_of.kp (bn_minus_of T) (da_cons (de_call (ok_fraction (P := P) (w := w) (base := base) T) (hr.mono (by decide)) rfl T.m_fraction T.D_fraction.kp (bn_fraction T) (da_cons (dv 2) (da_cons de_int da_nil)) (alen1 (alen1 alen0))) (da_cons (de_call (ok_new_of (P := P) (w := w) (base := base) T) (hr.mono (by decide)) rfl T.m_new_of T.D_new_of.kp (bn_new_of T) (da_cons (dv 0) (da_cons (dv 1) (da_cons (de_call (ok_rounds_by (P := P) (w := w) (base := base) T) (hr.mono (by decide)) rfl T.m_rounds_by T.D_rounds_by.kp (bn_rounds_by T) (da_cons (dv 0) (da_cons (dv 1) (da_cons (dv 2) da_nil))) (alen1 (alen1 (alen1 alen0)))) da_nil))) (alen1 (alen1 (alen1 alen0)))) da_nil)) (alen1 (alen1 alen0)))))
theorem sc_next_number : FnScope ["new", "round_days", "day", "number"] ["new", "round_days", "day"] (defScope s_next_number) := ⟨rfl, rfl, rfl, by decide +kernel, rfl, by decide +kernel, by decide +kernel⟩
theorem bn_next_number (T : Fx K mg) : Binds K T.d_next_number ["new", "round_days", "day"] [] := T.D_next_number.bindsN fun _ _ _ _ _ _ us hl => match us, hl with | [_, _, _], _ => rfl
theorem ok_next_number (T : Fx K mg) : FnOk P w K mg base CX0 5 T.a_next_number T.d_next_number ["new", "round_days", "day"] (spOf K 3 F_next_number) := fn_ok T.D_next_number sc_next_number fun cdv A outer s H E hr => by
  have nd := sc_next_number.nd
  exact (dss_cons (ds_set nd rfl (by first | exact .inl rfl | exact .inr rfl) (de_call (ok_rounds_by (P := P) (w := w) (base := base) T) (hr.mono (by decide)) rfl T.m_rounds_by T.D_rounds_by.kp (bn_rounds_by T) (da_cons (dv 0) (da_cons (dv 1) (da_cons (dv 2) da_nil))) (alen1 (alen1 (alen1 alen0)))))
    (dss_one (ds_ret (de_ifE (t_eq hr (de_call (ok_new_of (P := P) (w := w) (base := base) T) (hr.mono (by decide)) rfl T.m_new_of T.D_new_of.kp (bn_new_of T) (da_cons (dv 0) (da_cons (dv 1) (da_cons (dv 3) da_nil))) (alen1 (alen1 (alen1 alen0)))) (de_call (ok_fraction (P := P) (w := w) (base := base) T) (hr.mono (by decide)) rfl T.m_fraction T.D_fraction.kp (bn_fraction T) (da_cons (dv 2) (da_cons de_int da_nil)) (alen1 (alen1 alen0)))) (dv 3) (d_add (dv 3) de_int)))))
theorem sc_spring_after : FnScope ["new", "round_days", "time"] ["new", "round_days", "time"] (defScope s_spring_after) := ⟨rfl, rfl, rfl, by decide +kernel, rfl, by decide +kernel, by decide +kernel⟩
theorem bn_spring_after (T : Fx K mg) : Binds K T.d_spring_after ["new", "round_days", "time"] [] := T.D_spring_after.bindsN fun _ _ _ _ _ _ us hl => match us, hl with | [_, _, _], _ => rfl
theorem ok_spring_after (T : Fx K mg) : FnOk P w K mg base CX0 5 T.a_spring_after T.d_spring_after ["new", "round_days", "time"] (spOf K 3 F_spring_after) := fn_ok T.D_spring_after sc_spring_after fun cdv A outer s H E hr => by
  have nd := sc_spring_after.nd
  exact (dss_one (ds_ret (de_call (ok_nearest_day (P := P) (w := w) (base := base) T) (hr.mono (by decide)) rfl T.m_nearest_day T.D_nearest_day.kp (bn_nearest_day T) (da_cons (de_call (ok_plus_of (P := P) (w := w) (base := base) T) (hr.mono (by decide)) rfl T.m_plus_of T.D_plus_of.kp (bn_plus_of T) (da_cons (dv 0) (da_cons (de_call (ok_times_of (P := P) (w := w) (base := base) T) (hr.mono (by decide)) rfl T.m_times_of T.D_times_of.kp (bn_times_of T) (da_cons (dv 2) (da_cons (dv 1) da_nil)) (alen1 (alen1 alen0))) da_nil)) (alen1 (alen1 alen0))) da_nil) (alen1 alen0))))
theorem sc_quarter_at : FnScope ["new", "round_days", "day"] ["new", "round_days", "day"] (defScope s_quarter_at) := ⟨rfl, rfl, rfl, by decide +kernel, rfl, by decide +kernel, by decide +kernel⟩
theorem bn_quarter_at (T : Fx K mg) : Binds K T.d_quarter_at ["new", "round_days", "day"] [] := T.D_quarter_at.bindsN fun _ _ _ _ _ _ us hl => match us, hl with | [_, _, _], _ => rfl
theorem ok_quarter_at (T : Fx K mg) : FnOk P w K mg base CX0 6 T.a_quarter_at T.d_quarter_at ["new", "round_days", "day"] (spOf K 3 F_quarter_at) := fn_ok T.D_quarter_at sc_quarter_at fun cdv A outer s H E hr => by
  have nd := sc_quarter_at.nd
  exact (dss_one (ds_ret (de_call (ok_floor_of (P := P) (w := w) (base := base) T) (hr.mono (by decide)) rfl T.m_floor_of T.D_floor_of.kp (bn_floor_of T) (da_cons (de_call (ok_divided_by (P := P) (w := w) (base := base) T) (hr.mono (by decide)) rfl T.m_divided_by T.D_divided_by.kp (bn_divided_by T) (da_cons (de_call (ok_times_of (P := P) (w := w) (base := base) T) (hr.mono (by decide)) rfl T.m_times_of T.D_times_of.kp (bn_times_of T) (da_cons (de_tup (da_cons de_int (da_cons de_int da_nil))) (da_cons (de_call (ok_age_at (P := P) (w := w) (base := base) T) (hr.mono (by decide)) rfl T.m_age_at T.D_age_at.kp (bn_age_at T) (da_cons (dv 0) (da_cons (dv 1) (da_cons (dv 2) da_nil))) (alen1 (alen1 (alen1 alen0)))) da_nil)) (alen1 (alen1 alen0))) (da_cons (dv 1) da_nil)) (alen1 (alen1 alen0))) da_nil) (alen1 alen0))))
theorem sc_next_new : FnScope ["new", "round_days", "day"] ["new", "round_days", "day"] (defScope s_next_new) := ⟨rfl, rfl, rfl, by decide +kernel, rfl, by decide +kernel, by decide +kernel⟩
theorem bn_next_new (T : Fx K mg) : Binds K T.d_next_new ["new", "round_days", "day"] [] := T.D_next_new.bindsN fun _ _ _ _ _ _ us hl => match us, hl with | [_, _, _], _ => rfl
theorem ok_next_new (T : Fx K mg) : FnOk P w K mg base CX0 6 T.a_next_new T.d_next_new ["new", "round_days", "day"] (spOf K 3 F_next_new) := fn_ok T.D_next_new sc_next_new fun cdv A outer s H E hr => by
  have nd := sc_next_new.nd
  exact (dss_one (ds_ret (de_call (ok_new_of (P := P) (w := w) (base := base) T) (hr.mono (by decide)) rfl T.m_new_of T.D_new_of.kp (bn_new_of T) (da_cons (dv 0) (da_cons (dv 1) (da_cons (de_call (ok_next_number (P := P) (w := w) (base := base) T) (hr.mono (by decide)) rfl T.m_next_number T.D_next_number.kp (bn_next_number T) (da_cons (dv 0) (da_cons (dv 1) (da_cons (dv 2) da_nil))) (alen1 (alen1 (alen1 alen0)))) da_nil))) (alen1 (alen1 (alen1 alen0))))))
theorem sc_spring_days : FnScope ["new", "round_days", "begin", "end", "found", "halves", "day"] ["new", "round_days", "begin", "end"] (defScope s_spring_days) := ⟨rfl, rfl, rfl, by decide +kernel, rfl, by decide +kernel, by decide +kernel⟩
theorem bn_spring_days (T : Fx K mg) : Binds K T.d_spring_days ["new", "round_days", "begin", "end"] [] := T.D_spring_days.bindsN fun _ _ _ _ _ _ us hl => match us, hl with | [_, _, _, _], _ => rfl
theorem ok_spring_days (T : Fx K mg) : FnOk P w K mg base CX0 6 T.a_spring_days T.d_spring_days ["new", "round_days", "begin", "end"] (spOf K 4 F_spring_days) := fn_ok T.D_spring_days sc_spring_days fun cdv A outer s H E hr => by
  have nd := sc_spring_days.nd
  exact (dss_cons (ds_setM nd rfl (by first | exact .inl rfl | exact .inr rfl) de_newK)
    (dss_cons (ds_set nd rfl (by first | exact .inl rfl | exact .inr rfl) (d_sub (d_mul de_int (de_call (ok_rounds_by (P := P) (w := w) (base := base) T) (hr.mono (by decide)) rfl T.m_rounds_by T.D_rounds_by.kp (bn_rounds_by T) (da_cons (dv 0) (da_cons (dv 1) (da_cons (dv 2) da_nil))) (alen1 (alen1 (alen1 alen0))))) de_int))
    (dss_cons (ds_set nd rfl (by first | exact .inl rfl | exact .inr rfl) (de_call (ok_spring_after (P := P) (w := w) (base := base) T) (hr.mono (by decide)) rfl T.m_spring_after T.D_spring_after.kp (bn_spring_after T) (da_cons (dv 0) (da_cons (dv 1) (da_cons (de_call (ok_fraction (P := P) (w := w) (base := base) T) (hr.mono (by decide)) rfl T.m_fraction T.D_fraction.kp (bn_fraction T) (da_cons (dv 5) (da_cons de_int da_nil)) (alen1 (alen1 alen0))) da_nil))) (alen1 (alen1 (alen1 alen0)))))
    (dss_cons (ds_while PassesOwn.never (t_lt (dv 6) (dv 3)) (dss_cons (ds_if (t_ge (dv 6) (dv 2)) (dss_one (ds_put (hu1 hr) (dv 4) (dv 6) de_bl)) dss_nil)
    (dss_cons (ds_iadd nd de_int)
    (dss_one (ds_set nd rfl (by first | exact .inl rfl | exact .inr rfl) (de_call (ok_spring_after (P := P) (w := w) (base := base) T) (hr.mono (by decide)) rfl T.m_spring_after T.D_spring_after.kp (bn_spring_after T) (da_cons (dv 0) (da_cons (dv 1) (da_cons (de_call (ok_fraction (P := P) (w := w) (base := base) T) (hr.mono (by decide)) rfl T.m_fraction T.D_fraction.kp (bn_fraction T) (da_cons (dv 5) (da_cons de_int da_nil)) (alen1 (alen1 alen0))) da_nil))) (alen1 (alen1 (alen1 alen0)))))))))
    (dss_one (ds_ret (d_tuple T.b_tuple (d_sorted hr T.b_sorted (dv 4)))))))))
theorem sc_same_age : FnScope ["new", "round_days", "day", "other"] ["new", "round_days", "day", "other"] (defScope s_same_age) := ⟨rfl, rfl, rfl, by decide +kernel, rfl, by decide +kernel, by decide +kernel⟩
theorem bn_same_age (T : Fx K mg) : Binds K T.d_same_age ["new", "round_days", "day", "other"] [] := T.D_same_age.bindsN fun _ _ _ _ _ _ us hl => match us, hl with | [_, _, _, _], _ => rfl
theorem ok_same_age (T : Fx K mg) : FnOk P w K mg base CX0 6 T.a_same_age T.d_same_age ["new", "round_days", "day", "other"] (spOf K 4 F_same_age) := fn_ok T.D_same_age sc_same_age fun cdv A outer s H E hr => by
  have nd := sc_same_age.nd
  exact (dss_one (ds_ret (d_eq hr (de_call (ok_age_at (P := P) (w := w) (base := base) T) (hr.mono (by decide)) rfl T.m_age_at T.D_age_at.kp (bn_age_at T) (da_cons (dv 0) (da_cons (dv 1) (da_cons (dv 2) da_nil))) (alen1 (alen1 (alen1 alen0)))) (de_call (ok_age_at (P := P) (w := w) (base := base) T) (hr.mono (by decide)) rfl T.m_age_at T.D_age_at.kp (bn_age_at T) (da_cons (dv 0) (da_cons (dv 1) (da_cons (dv 3) da_nil))) (alen1 (alen1 (alen1 alen0)))))))
theorem sc_moons_between : FnScope ["new", "round_days", "begin", "end"] ["new", "round_days", "begin", "end"] (defScope s_moons_between) := ⟨rfl, rfl, rfl, by decide +kernel, rfl, by decide +kernel, by decide +kernel⟩
theorem bn_moons_between (T : Fx K mg) : Binds K T.d_moons_between ["new", "round_days", "begin", "end"] [] := T.D_moons_between.bindsN fun _ _ _ _ _ _ us hl => match us, hl with | [_, _, _, _], _ => rfl
theorem ok_moons_between (T : Fx K mg) : FnOk P w K mg base CX0 6 T.a_moons_between T.d_moons_between ["new", "round_days", "begin", "end"] (spOf K 4 F_moons_between) := fn_ok T.D_moons_between sc_moons_between fun cdv A outer s H E hr => by
  have nd := sc_moons_between.nd
  exact (dss_one (ds_ret (d_max2 T.b_max (d_sub (de_call (ok_next_number (P := P) (w := w) (base := base) T) (hr.mono (by decide)) rfl T.m_next_number T.D_next_number.kp (bn_next_number T) (da_cons (dv 0) (da_cons (dv 1) (da_cons (dv 3) da_nil))) (alen1 (alen1 (alen1 alen0)))) (de_call (ok_next_number (P := P) (w := w) (base := base) T) (hr.mono (by decide)) rfl T.m_next_number T.D_next_number.kp (bn_next_number T) (da_cons (dv 0) (da_cons (dv 1) (da_cons (dv 2) da_nil))) (alen1 (alen1 (alen1 alen0))))) de_int)))
theorem sc_is_spring : FnScope ["new", "round_days", "day", "wide"] ["new", "round_days", "day", "wide"] (defScope s_is_spring) := ⟨rfl, rfl, rfl, by decide +kernel, rfl, by decide +kernel, by decide +kernel⟩
theorem bn_is_spring (T : Fx K mg) : Binds K T.d_is_spring ["new", "round_days", "day", "wide"] [] := T.D_is_spring.bindsN fun _ _ _ _ _ _ us hl => match us, hl with | [_, _, _, _], _ => rfl
theorem ok_is_spring (T : Fx K mg) : FnOk P w K mg base CX0 7 T.a_is_spring T.d_is_spring ["new", "round_days", "day", "wide"] (spOf K 4 F_is_spring) := fn_ok T.D_is_spring sc_is_spring fun cdv A outer s H E hr => by
  have nd := sc_is_spring.nd
  exact (dss_one (ds_ret (d_gt (d_len T.b_len (de_call (ok_spring_days (P := P) (w := w) (base := base) T) (hr.mono (by decide)) rfl T.m_spring_days T.D_spring_days.kp (bn_spring_days T) (da_cons (dv 0) (da_cons (dv 1) (da_cons (d_sub (dv 2) (dv 3)) (da_cons (d_add (d_add (dv 2) (dv 3)) de_int) da_nil)))) (alen1 (alen1 (alen1 (alen1 alen0)))))) de_int)))
theorem sc__law_is_going_on : FnScope ["new", "turn", "begin", "day", "age", "later", "grown", "moons"] ["new", "turn", "begin"] (defScope s__law_is_going_on) := ⟨rfl, rfl, rfl, by decide +kernel, rfl, by decide +kernel, by decide +kernel⟩
theorem bn__law_is_going_on (T : Fx K mg) : Binds K T.d__law_is_going_on ["new", "turn", "begin"] [] := T.D__law_is_going_on.bindsN fun _ _ _ _ _ _ us hl => match us, hl with | [_, _, _], _ => rfl
theorem ok__law_is_going_on (T : Fx K mg) : FnOk P w K mg base CX0 7 T.a__law_is_going_on T.d__law_is_going_on ["new", "turn", "begin"] (spOf K 3 F__law_is_going_on) := fn_ok T.D__law_is_going_on sc__law_is_going_on fun cdv A outer s H E hr => by
  have nd := sc__law_is_going_on.nd
  exact (dss_cons (ds_for PassesOwn.never rfl (di_rangeA rfl T.b_range (dv 2) (d_add (dv 2) de_int)) (dg_name nd rfl (by first | exact .inl rfl | exact .inr rfl)) (dss_cons (ds_set nd rfl (by first | exact .inl rfl | exact .inr rfl) (de_call (ok_age_at (P := P) (w := w) (base := base) T) (hr.mono (by decide)) rfl T.m_age_at T.D_age_at.kp (bn_age_at T) (da_cons (dv 0) (da_cons (dv 1) (da_cons (dv 3) da_nil))) (alen1 (alen1 (alen1 alen0)))))
    (dss_cons (ds_set nd rfl (by first | exact .inl rfl | exact .inr rfl) (de_call (ok_age_at (P := P) (w := w) (base := base) T) (hr.mono (by decide)) rfl T.m_age_at T.D_age_at.kp (bn_age_at T) (da_cons (dv 0) (da_cons (dv 1) (da_cons (d_add (dv 3) de_int) da_nil))) (alen1 (alen1 (alen1 alen0)))))
    (dss_cons (ds_set nd rfl (by first | exact .inl rfl | exact .inr rfl) (de_call (ok__law_plus (P := P) (w := w) (base := base) T) (hr.mono (by decide)) rfl T.m__law_plus T.D__law_plus.kp (bn__law_plus T) (da_cons (dv 4) (da_cons (de_tup (da_cons de_int (da_cons de_int da_nil))) da_nil)) (alen1 (alen1 alen0))))
    (dss_cons (ds_set nd rfl (by first | exact .inl rfl | exact .inr rfl) (de_call (ok_moons_between (P := P) (w := w) (base := base) T) (hr.mono (by decide)) rfl T.m_moons_between T.D_moons_between.kp (bn_moons_between T) (da_cons (dv 0) (da_cons (dv 1) (da_cons (d_add (dv 3) de_int) (da_cons (d_add (dv 3) de_int) da_nil)))) (alen1 (alen1 (alen1 (alen1 alen0))))))
    (dss_cons (ds_if (dt_val (de_call (ok__law_less (P := P) (w := w) (base := base) T) (hr.mono (by decide)) rfl T.m__law_less T.D__law_less.kp (bn__law_less T) (da_cons (dv 6) (da_cons (dv 1) da_nil)) (alen1 (alen1 alen0)))) (dss_one (ds_if (t_ne hr (dv 5) (dv 6)) (dss_one (ds_ret de_bl)) dss_nil)) (dss_one (ds_if (t_ne hr (dv 5) (de_call (ok__law_minus (P := P) (w := w) (base := base) T) (hr.mono (by decide)) rfl T.m__law_minus T.D__law_minus.kp (bn__law_minus T) (da_cons (dv 6) (da_cons (de_call (ok__law_times (P := P) (w := w) (base := base) T) (hr.mono (by decide)) rfl T.m__law_times T.D__law_times.kp (bn__law_times T) (da_cons (dv 1) (da_cons (de_call (ok__law_whole (P := P) (w := w) (base := base) T) (hr.mono (by decide)) rfl T.m__law_whole T.D__law_whole.kp (bn__law_whole T) (da_cons (de_call (ok__law_floor (P := P) (w := w) (base := base) T) (hr.mono (by decide)) rfl T.m__law_floor T.D__law_floor.kp (bn__law_floor T) (da_cons (de_call (ok__law_over (P := P) (w := w) (base := base) T) (hr.mono (by decide)) rfl T.m__law_over T.D__law_over.kp (bn__law_over T) (da_cons (dv 6) (da_cons (dv 1) da_nil)) (alen1 (alen1 alen0))) da_nil) (alen1 alen0)) da_nil) (alen1 alen0)) da_nil)) (alen1 (alen1 alen0))) da_nil)) (alen1 (alen1 alen0)))) (dss_one (ds_ret de_bl)) dss_nil)))
    (dss_cons (ds_if (dt_w (dw_and (dt_val (de_call (ok__law_less (P := P) (w := w) (base := base) T) (hr.mono (by decide)) rfl T.m__law_less T.D__law_less.kp (bn__law_less T) (da_cons (de_tup (da_cons de_int (da_cons de_int da_nil))) (da_cons (dv 1) da_nil)) (alen1 (alen1 alen0)))) (dw_and1 (t_gt (d_mod (d_sub (de_call (ok_quarter_at (P := P) (w := w) (base := base) T) (hr.mono (by decide)) rfl T.m_quarter_at T.D_quarter_at.kp (bn_quarter_at T) (da_cons (dv 0) (da_cons (dv 1) (da_cons (d_add (dv 3) de_int) da_nil))) (alen1 (alen1 (alen1 alen0)))) (de_call (ok_quarter_at (P := P) (w := w) (base := base) T) (hr.mono (by decide)) rfl T.m_quarter_at T.D_quarter_at.kp (bn_quarter_at T) (da_cons (dv 0) (da_cons (dv 1) (da_cons (dv 3) da_nil))) (alen1 (alen1 (alen1 alen0))))) de_int) de_int)))) (dss_one (ds_ret de_bl)) dss_nil)
    (dss_one (ds_if (dt_w (dw_or (t_ne hr (d_eq hr (dv 5) (de_tup (da_cons de_int (da_cons de_int da_nil)))) (d_eq hr (de_call (ok_next_new (P := P) (w := w) (base := base) T) (hr.mono (by decide)) rfl T.m_next_new T.D_next_new.kp (bn_next_new T) (da_cons (dv 0) (da_cons (dv 1) (da_cons (d_add (dv 3) de_int) da_nil))) (alen1 (alen1 (alen1 alen0)))) (de_call (ok__law_whole (P := P) (w := w) (base := base) T) (hr.mono (by decide)) rfl T.m__law_whole T.D__law_whole.kp (bn__law_whole T) (da_cons (d_add (dv 3) de_int) da_nil) (alen1 alen0)))) (dw_or1 (dt_w (dw_and (t_eq hr (dv 5) (de_tup (da_cons de_int (da_cons de_int da_nil)))) (dw_and1 (t_eq hr (dv 7) de_int))))))) (dss_one (ds_ret de_bl)) dss_nil)))))))))
    (dss_one (ds_ret de_bl)))
theorem sc__law_are_moons_right : FnScope ["draws", "new", "turn", "begin", "end", "middle", "whole", "rounds", "springs", "day", "time", "step", "later"] ["draws", "new", "turn", "begin", "end"] (defScope s__law_are_moons_right) := ⟨rfl, rfl, rfl, by decide +kernel, rfl, by decide +kernel, by decide +kernel⟩
theorem bn__law_are_moons_right (T : Fx K mg) : Binds K T.d__law_are_moons_right ["draws", "new", "turn", "begin", "end"] [] := T.D__law_are_moons_right.bindsN fun _ _ _ _ _ _ us hl => match us, hl with | [_, _, _, _, _], _ => rfl
theorem ok__law_are_moons_right (T : Fx K mg) : FnOk P w K mg base CX0 8 T.a__law_are_moons_right T.d__law_are_moons_right ["draws", "new", "turn", "begin", "end"] (spOf K 5 F__law_are_moons_right) := fn_ok T.D__law_are_moons_right sc__law_are_moons_right fun cdv A outer s H E hr => by
  have nd := sc__law_are_moons_right.nd
  exact (dss_cons (ds_set nd rfl (by first | exact .inl rfl | exact .inr rfl) (d_add (dv 3) (de_call (ok__law_take (P := P) (w := w) (base := base) T) (hr.mono (by decide)) rfl T.m__law_take T.D__law_take.kp (bn__law_take T) (da_cons (dv 0) (da_cons (d_add (d_sub (dv 4) (dv 3)) de_int) da_nil)) (alen1 (alen1 alen0)))))
    (dss_cons (ds_set nd rfl (by first | exact .inl rfl | exact .inr rfl) (de_call (ok_moons_between (P := P) (w := w) (base := base) T) (hr.mono (by decide)) rfl T.m_moons_between T.D_moons_between.kp (bn_moons_between T) (da_cons (dv 1) (da_cons (dv 2) (da_cons (dv 3) (da_cons (dv 4) da_nil)))) (alen1 (alen1 (alen1 (alen1 alen0))))))
    (dss_cons (ds_if (t_ne hr (d_add (de_call (ok_moons_between (P := P) (w := w) (base := base) T) (hr.mono (by decide)) rfl T.m_moons_between T.D_moons_between.kp (bn_moons_between T) (da_cons (dv 1) (da_cons (dv 2) (da_cons (dv 3) (da_cons (dv 5) da_nil)))) (alen1 (alen1 (alen1 (alen1 alen0))))) (de_call (ok_moons_between (P := P) (w := w) (base := base) T) (hr.mono (by decide)) rfl T.m_moons_between T.D_moons_between.kp (bn_moons_between T) (da_cons (dv 1) (da_cons (dv 2) (da_cons (dv 5) (da_cons (dv 4) da_nil)))) (alen1 (alen1 (alen1 (alen1 alen0)))))) (dv 6)) (dss_one (ds_ret de_bl)) dss_nil)
    (dss_cons (ds_set nd rfl (by first | exact .inl rfl | exact .inr rfl) (de_call (ok__law_floor (P := P) (w := w) (base := base) T) (hr.mono (by decide)) rfl T.m__law_floor T.D__law_floor.kp (bn__law_floor T) (da_cons (de_call (ok__law_over (P := P) (w := w) (base := base) T) (hr.mono (by decide)) rfl T.m__law_over T.D__law_over.kp (bn__law_over T) (da_cons (de_call (ok__law_whole (P := P) (w := w) (base := base) T) (hr.mono (by decide)) rfl T.m__law_whole T.D__law_whole.kp (bn__law_whole T) (da_cons (d_sub (dv 4) (dv 3)) da_nil) (alen1 alen0)) (da_cons (dv 2) da_nil)) (alen1 (alen1 alen0))) da_nil) (alen1 alen0)))
    (dss_cons (ds_if (dt_not (dt_chain op_le os_le op_le os_le (dv 7) (dv 6) (d_add (dv 7) de_int))) (dss_one (ds_ret de_bl)) dss_nil)
    (dss_cons (ds_set nd rfl (by first | exact .inl rfl | exact .inr rfl) (de_call (ok_spring_days (P := P) (w := w) (base := base) T) (hr.mono (by decide)) rfl T.m_spring_days T.D_spring_days.kp (bn_spring_days T) (da_cons (dv 1) (da_cons (dv 2) (da_cons (dv 3) (da_cons (dv 4) da_nil)))) (alen1 (alen1 (alen1 (alen1 alen0))))))
    (dss_cons (ds_if (dt_w (dw_or (dt_not (dt_val (d_isi "tuple" T.b_isinstance T.b_tuple bt_tuple (dv 8)))) (dw_or1 (t_ne hr (d_add (de_call (ok_spring_days (P := P) (w := w) (base := base) T) (hr.mono (by decide)) rfl T.m_spring_days T.D_spring_days.kp (bn_spring_days T) (da_cons (dv 1) (da_cons (dv 2) (da_cons (dv 3) (da_cons (dv 5) da_nil)))) (alen1 (alen1 (alen1 (alen1 alen0))))) (de_call (ok_spring_days (P := P) (w := w) (base := base) T) (hr.mono (by decide)) rfl T.m_spring_days T.D_spring_days.kp (bn_spring_days T) (da_cons (dv 1) (da_cons (dv 2) (da_cons (dv 5) (da_cons (dv 4) da_nil)))) (alen1 (alen1 (alen1 (alen1 alen0)))))) (dv 8))))) (dss_one (ds_ret de_bl)) dss_nil)
    (dss_cons (ds_for PassesOwn.never rfl (di_range2 rfl T.b_range (dv 3) (d_min2 T.b_min (dv 4) (d_add (dv 3) de_int))) (dg_name nd rfl (by first | exact .inl rfl | exact .inr rfl)) (dss_one (ds_if (t_ne hr (de_call (ok_is_spring (P := P) (w := w) (base := base) T) (hr.mono (by decide)) rfl T.m_is_spring T.D_is_spring.kp (bn_is_spring T) (da_cons (dv 1) (da_cons (dv 2) (da_cons (dv 9) (da_cons de_int da_nil)))) (alen1 (alen1 (alen1 (alen1 alen0))))) (d_in hr (dv 9) (dv 8))) (dss_one (ds_ret de_bl)) dss_nil)))
    (dss_cons (ds_set nd rfl (by first | exact .inl rfl | exact .inr rfl) (de_call (ok_next_new (P := P) (w := w) (base := base) T) (hr.mono (by decide)) rfl T.m_next_new T.D_next_new.kp (bn_next_new T) (da_cons (dv 1) (da_cons (dv 2) (da_cons (dv 3) da_nil))) (alen1 (alen1 (alen1 alen0)))))
    (dss_cons (ds_for PassesOwn.never rfl (di_range1 rfl T.b_range de_int) (dg_name nd rfl (by first | exact .inl rfl | exact .inr rfl)) (dss_cons (ds_set nd rfl (by first | exact .inl rfl | exact .inr rfl) (de_call (ok_next_new (P := P) (w := w) (base := base) T) (hr.mono (by decide)) rfl T.m_next_new T.D_next_new.kp (bn_next_new T) (da_cons (dv 1) (da_cons (dv 2) (da_cons (d_add (de_call (ok__law_floor (P := P) (w := w) (base := base) T) (hr.mono (by decide)) rfl T.m__law_floor T.D__law_floor.kp (bn__law_floor T) (da_cons (dv 10) da_nil) (alen1 alen0)) de_int) da_nil))) (alen1 (alen1 (alen1 alen0)))))
    (dss_cons (ds_if (dt_w (dw_and (dt_val (de_call (ok__law_less (P := P) (w := w) (base := base) T) (hr.mono (by decide)) rfl T.m__law_less T.D__law_less.kp (bn__law_less T) (da_cons (de_tup (da_cons de_int (da_cons de_int da_nil))) (da_cons (dv 2) da_nil)) (alen1 (alen1 alen0)))) (dw_and (t_ne hr (dv 12) (de_call (ok__law_plus (P := P) (w := w) (base := base) T) (hr.mono (by decide)) rfl T.m__law_plus T.D__law_plus.kp (bn__law_plus T) (da_cons (dv 10) (da_cons (dv 2) da_nil)) (alen1 (alen1 alen0)))) (dw_and1 (dt_not (dt_val (de_call (ok__law_less (P := P) (w := w) (base := base) T) (hr.mono (by decide)) rfl T.m__law_less T.D__law_less.kp (bn__law_less T) (da_cons (dv 2) (da_cons (de_tup (da_cons de_int (da_cons de_int da_nil))) da_nil)) (alen1 (alen1 alen0))))))))) (dss_one (ds_ret de_bl)) dss_nil)
    (dss_cons (ds_if (dt_val (de_call (ok__law_less (P := P) (w := w) (base := base) T) (hr.mono (by decide)) rfl T.m__law_less T.D__law_less.kp (bn__law_less T) (da_cons (dv 12) (da_cons (de_call (ok__law_whole (P := P) (w := w) (base := base) T) (hr.mono (by decide)) rfl T.m__law_whole T.D__law_whole.kp (bn__law_whole T) (da_cons (d_add (de_call (ok__law_floor (P := P) (w := w) (base := base) T) (hr.mono (by decide)) rfl T.m__law_floor T.D__law_floor.kp (bn__law_floor T) (da_cons (dv 10) da_nil) (alen1 alen0)) de_int) da_nil) (alen1 alen0)) da_nil)) (alen1 (alen1 alen0)))) (dss_one (ds_ret de_bl)) dss_nil)
    (dss_one (ds_set nd rfl (by first | exact .inl rfl | exact .inr rfl) (dv 12)))))))
    (dss_one (ds_ret de_bl))))))))))))
theorem sc__law_same : FnScope ["actual", "due", "k"] ["actual", "due"] (defScope s__law_same) := ⟨rfl, rfl, rfl, by decide +kernel, rfl, by decide +kernel, by decide +kernel⟩
theorem bn__law_same (T : Fx K mg) : Binds K T.d__law_same ["actual", "due"] [] := T.D__law_same.bindsN fun _ _ _ _ _ _ us hl => match us, hl with | [_, _], _ => rfl
theorem ok__law_same (T : Fx K mg) : ∀ k, FnOk P w K mg base CX0 k T.a__law_same T.d__law_same ["actual", "due"] (spOf K 2 (F__law_same k))
  | 0 => fn_zero rfl
  | k + 1 => fn_ok T.D__law_same sc__law_same fun cdv A outer s H E hr => by
    have nd := sc__law_same.nd
    exact (dss_cons (ds_if (t_is (dv 1) de_non) (dss_one (ds_ret (d_is (dv 0) de_non))) dss_nil)
    (dss_cons (ds_if (dt_val (d_isi "bool" T.b_isinstance T.b_bool bt_bool (dv 1))) (dss_one (ds_ret (de_and (d_isi "bool" T.b_isinstance T.b_bool bt_bool (dv 0)) (de_one (d_eq hr (dv 0) (dv 1)))))) dss_nil)
    (dss_cons (ds_if (dt_val (d_isi "int" T.b_isinstance T.b_int bt_int (dv 1))) (dss_one (ds_ret (de_and (d_isi "int" T.b_isinstance T.b_int bt_int (dv 0)) (de_and (de_not (d_isi "bool" T.b_isinstance T.b_bool bt_bool (dv 0))) (de_one (d_eq hr (dv 0) (dv 1))))))) dss_nil)
    (dss_cons (ds_if (dt_val (d_isi "str" T.b_isinstance T.b_str bt_str (dv 1))) (dss_one (ds_ret (de_and (d_isi "str" T.b_isinstance T.b_str bt_str (dv 0)) (de_one (d_eq hr (dv 0) (dv 1)))))) dss_nil)
    (dss_cons (ds_if (dt_w (dw_or (dt_not (dt_val (d_isi "tuple" T.b_isinstance T.b_tuple bt_tuple (dv 0)))) (dw_or1 (t_ne hr (d_len T.b_len (dv 0)) (d_len T.b_len (dv 1)))))) (dss_one (ds_ret de_bl)) dss_nil)
    (dss_cons (ds_for PassesOwn.never rfl (di_range1 rfl T.b_range (d_len T.b_len (dv 1))) (dg_name nd rfl (by first | exact .inl rfl | exact .inr rfl)) (dss_one (ds_if (dt_not (dt_val (de_call (ok__law_same T k) hr rfl T.m__law_same T.D__law_same.kp (bn__law_same T) (da_cons (d_ix hr (dv 0) (dv 2)) (da_cons (d_ix hr (dv 1) (dv 2)) da_nil)) (alen1 (alen1 alen0))))) (dss_one (ds_ret de_bl)) dss_nil)))
    (dss_one (ds_ret de_bl))))))))
theorem sc__law_are_changes_right : FnScope ["draws", "script", "new", "turn", "begin", "end", "rounds", "other", "by", "moved", "day", "later", ".0"] ["draws", "script", "new", "turn", "begin", "end"] (defScope s__law_are_changes_right) := ⟨rfl, rfl, rfl, by decide +kernel, rfl, by decide +kernel, by decide +kernel⟩
theorem bn__law_are_changes_right (T : Fx K mg) : Binds K T.d__law_are_changes_right ["draws", "script", "new", "turn", "begin", "end"] [] := T.D__law_are_changes_right.bindsN fun _ _ _ _ _ _ us hl => match us, hl with | [_, _, _, _, _, _], _ => rfl
theorem ok__law_are_changes_right (T : Fx K mg) : FnOk P w K mg base CX0 13 T.a__law_are_changes_right T.d__law_are_changes_right ["draws", "script", "new", "turn", "begin", "end"] (spOf K 6 F__law_are_changes_right) := fn_ok T.D__law_are_changes_right sc__law_are_changes_right fun cdv A outer s H E hr => by
  have nd := sc__law_are_changes_right.nd
  exact (dss_cons (ds_set nd rfl (by first | exact .inl rfl | exact .inr rfl) (d_sub (de_call (ok__law_take (P := P) (w := w) (base := base) T) (hr.mono (by decide)) rfl T.m__law_take T.D__law_take.kp (bn__law_take T) (da_cons (dv 0) (da_cons de_int da_nil)) (alen1 (alen1 alen0))) de_int))
    (dss_cons (ds_set nd rfl (by first | exact .inl rfl | exact .inr rfl) (de_call (ok__law_new (P := P) (w := w) (base := base) T) (hr.mono (by decide)) rfl T.m__law_new T.D__law_new.kp (bn__law_new T) (da_cons (dv 2) (da_cons (dv 3) (da_cons (de_call (ok__law_whole (P := P) (w := w) (base := base) T) (hr.mono (by decide)) rfl T.m__law_whole T.D__law_whole.kp (bn__law_whole T) (da_cons (dv 6) da_nil) (alen1 alen0)) da_nil))) (alen1 (alen1 (alen1 alen0)))))
    (dss_cons (ds_set nd rfl (by first | exact .inl rfl | exact .inr rfl) (de_call (ok__law_cell (P := P) (w := w) (base := base) T) (hr.mono (by decide)) rfl T.m__law_cell T.D__law_cell.kp (bn__law_cell T) (da_cons (dv 1) (da_cons de_int da_nil)) (alen1 (alen1 alen0))))
    (dss_cons (ds_set nd rfl (by first | exact .inl rfl | exact .inr rfl) (de_call (ok__law_plus (P := P) (w := w) (base := base) T) (hr.mono (by decide)) rfl T.m__law_plus T.D__law_plus.kp (bn__law_plus T) (da_cons (dv 2) (da_cons (de_call (ok__law_whole (P := P) (w := w) (base := base) T) (hr.mono (by decide)) rfl T.m__law_whole T.D__law_whole.kp (bn__law_whole T) (da_cons (dv 8) da_nil) (alen1 alen0)) da_nil)) (alen1 (alen1 alen0))))
    (dss_cons (ds_for PassesOwn.never rfl (di_rangeA rfl T.b_range (dv 4) (d_add (dv 4) de_int)) (dg_name nd rfl (by first | exact .inl rfl | exact .inr rfl)) (dss_cons (ds_if (dt_w (dw_or (t_ne hr (de_call (ok_age_at (P := P) (w := w) (base := base) T) (hr.mono (by decide)) rfl T.m_age_at T.D_age_at.kp (bn_age_at T) (da_cons (dv 7) (da_cons (dv 3) (da_cons (dv 10) da_nil))) (alen1 (alen1 (alen1 alen0)))) (de_call (ok_age_at (P := P) (w := w) (base := base) T) (hr.mono (by decide)) rfl T.m_age_at T.D_age_at.kp (bn_age_at T) (da_cons (dv 2) (da_cons (dv 3) (da_cons (dv 10) da_nil))) (alen1 (alen1 (alen1 alen0))))) (dw_or1 (t_ne hr (de_call (ok_age_at (P := P) (w := w) (base := base) T) (hr.mono (by decide)) rfl T.m_age_at T.D_age_at.kp (bn_age_at T) (da_cons (dv 9) (da_cons (dv 3) (da_cons (d_add (dv 10) (dv 8)) da_nil))) (alen1 (alen1 (alen1 alen0)))) (de_call (ok_age_at (P := P) (w := w) (base := base) T) (hr.mono (by decide)) rfl T.m_age_at T.D_age_at.kp (bn_age_at T) (da_cons (dv 2) (da_cons (dv 3) (da_cons (dv 10) da_nil))) (alen1 (alen1 (alen1 alen0)))))))) (dss_one (ds_ret de_bl)) dss_nil)
    (dss_one (ds_if (dt_w (dw_or (t_ne hr (de_call (ok_next_new (P := P) (w := w) (base := base) T) (hr.mono (by decide)) rfl T.m_next_new T.D_next_new.kp (bn_next_new T) (da_cons (dv 7) (da_cons (dv 3) (da_cons (dv 10) da_nil))) (alen1 (alen1 (alen1 alen0)))) (de_call (ok_next_new (P := P) (w := w) (base := base) T) (hr.mono (by decide)) rfl T.m_next_new T.D_next_new.kp (bn_next_new T) (da_cons (dv 2) (da_cons (dv 3) (da_cons (dv 10) da_nil))) (alen1 (alen1 (alen1 alen0))))) (dw_or1 (t_ne hr (de_call (ok_quarter_at (P := P) (w := w) (base := base) T) (hr.mono (by decide)) rfl T.m_quarter_at T.D_quarter_at.kp (bn_quarter_at T) (da_cons (dv 9) (da_cons (dv 3) (da_cons (d_add (dv 10) (dv 8)) da_nil))) (alen1 (alen1 (alen1 alen0)))) (de_call (ok_quarter_at (P := P) (w := w) (base := base) T) (hr.mono (by decide)) rfl T.m_quarter_at T.D_quarter_at.kp (bn_quarter_at T) (da_cons (dv 2) (da_cons (dv 3) (da_cons (dv 10) da_nil))) (alen1 (alen1 (alen1 alen0)))))))) (dss_one (ds_ret de_bl)) dss_nil))))
    (dss_cons (ds_if (t_ne hr (de_call (ok_spring_days (P := P) (w := w) (base := base) T) (hr.mono (by decide)) rfl T.m_spring_days T.D_spring_days.kp (bn_spring_days T) (da_cons (dv 7) (da_cons (dv 3) (da_cons (dv 4) (da_cons (dv 5) da_nil)))) (alen1 (alen1 (alen1 (alen1 alen0))))) (de_call (ok_spring_days (P := P) (w := w) (base := base) T) (hr.mono (by decide)) rfl T.m_spring_days T.D_spring_days.kp (bn_spring_days T) (da_cons (dv 2) (da_cons (dv 3) (da_cons (dv 4) (da_cons (dv 5) da_nil)))) (alen1 (alen1 (alen1 (alen1 alen0)))))) (dss_one (ds_ret de_bl)) dss_nil)
    (dss_cons (ds_set nd rfl (by first | exact .inl rfl | exact .inr rfl) (d_tuple T.b_tuple (de_comp rfl nd (di_seq (de_call (ok_spring_days (P := P) (w := w) (base := base) T) (hr.mono (by decide)) rfl T.m_spring_days T.D_spring_days.kp (bn_spring_days T) (da_cons (dv 2) (da_cons (dv 3) (da_cons (dv 4) (da_cons (dv 5) da_nil)))) (alen1 (alen1 (alen1 (alen1 alen0)))))) (blkOk_by (own := [(".0", 12), ("day", 10)]) (by kernel_rfl)) (fun _ _ _ _ _ => (dg_name nd rfl (by first | exact .inl rfl | exact .inr rfl))) (fun _ _ _ _ _ => dts_nil) (fun _ _ _ _ _ => (d_add (dv 10) (dv 8))) rfl (by decide))))
    (dss_one (ds_ret (de_and (de_call (ok__law_same (P := P) (w := w) (base := base) T 12) (hr.mono (by decide)) rfl T.m__law_same T.D__law_same.kp (bn__law_same T) (da_cons (de_call (ok_spring_days (P := P) (w := w) (base := base) T) (hr.mono (by decide)) rfl T.m_spring_days T.D_spring_days.kp (bn_spring_days T) (da_cons (dv 9) (da_cons (dv 3) (da_cons (d_add (dv 4) (dv 8)) (da_cons (d_add (dv 5) (dv 8)) da_nil)))) (alen1 (alen1 (alen1 (alen1 alen0))))) (da_cons (dv 11) da_nil)) (alen1 (alen1 alen0))) (de_one (d_eq hr (de_call (ok_moons_between (P := P) (w := w) (base := base) T) (hr.mono (by decide)) rfl T.m_moons_between T.D_moons_between.kp (bn_moons_between T) (da_cons (dv 9) (da_cons (dv 3) (da_cons (d_add (dv 4) (dv 8)) (da_cons (d_add (dv 5) (dv 8)) da_nil)))) (alen1 (alen1 (alen1 (alen1 alen0))))) (de_call (ok_moons_between (P := P) (w := w) (base := base) T) (hr.mono (by decide)) rfl T.m_moons_between T.D_moons_between.kp (bn_moons_between T) (da_cons (dv 2) (da_cons (dv 3) (da_cons (dv 4) (da_cons (dv 5) da_nil)))) (alen1 (alen1 (alen1 (alen1 alen0)))))))))))))))))
theorem sc_law : FnScope ["script", "draws", "turning", "new", "turn", "begin", "end", "k", "one", "other", "between"] ["script"] (defScope s_law) := ⟨rfl, rfl, rfl, by decide +kernel, rfl, by decide +kernel, by decide +kernel⟩
theorem bn_law (T : Fx K mg) : Binds K T.d_law ["script"] [] := T.D_law.bindsN fun _ _ _ _ _ _ us hl => match us, hl with | [_], _ => rfl
theorem ok_law (T : Fx K mg) : FnOk P w K mg base CX0 14 T.a_law T.d_law ["script"] (spOf K 1 F_law) := fn_ok T.D_law sc_law fun cdv A outer s H E hr => by
  have nd := sc_law.nd
  exact (dss_cons (ds_setM nd rfl (by first | exact .inl rfl | exact .inr rfl) (de_call (ok__law_draws (P := P) (w := w) (base := base) T) (hr.mono (by decide)) rfl T.m__law_draws T.D__law_draws.kp (bn__law_draws T) (da_cons (dv 0) (da_cons de_int da_nil)) (alen1 (alen1 alen0))))
    (dss_cons (ds_for PassesOwn.never rfl (di_range1 rfl T.b_range de_int) (dg_name nd rfl (by first | exact .inl rfl | exact .inr rfl)) (dss_cons (ds_asg (de_call (ok__law_moon (P := P) (w := w) (base := base) T) (hr.mono (by decide)) rfl T.m__law_moon T.D__law_moon.kp (bn__law_moon T) (da_cons (dv 1) (da_cons (de_lst (da_cons de_int da_nil)) da_nil)) (alen1 (alen1 alen0))) (dg_tup rfl (dgs_cons (dg_name nd rfl (by first | exact .inl rfl | exact .inr rfl)) (dgs_cons (dg_name nd rfl (by first | exact .inl rfl | exact .inr rfl)) dgs_nil))))
    (dss_cons (ds_set nd rfl (by first | exact .inl rfl | exact .inr rfl) (d_sub (de_call (ok__law_take (P := P) (w := w) (base := base) T) (hr.mono (by decide)) rfl T.m__law_take T.D__law_take.kp (bn__law_take T) (da_cons (dv 1) (da_cons de_int da_nil)) (alen1 (alen1 alen0))) de_int))
    (dss_cons (ds_set nd rfl (by first | exact .inl rfl | exact .inr rfl) (d_add (dv 5) (de_call (ok__law_take (P := P) (w := w) (base := base) T) (hr.mono (by decide)) rfl T.m__law_take T.D__law_take.kp (bn__law_take T) (da_cons (dv 1) (da_cons (d_ix hr (de_lst (da_cons de_int (da_cons de_int da_nil))) (d_int T.b_int (d_eq hr (de_call (ok__law_take (P := P) (w := w) (base := base) T) (hr.mono (by decide)) rfl T.m__law_take T.D__law_take.kp (bn__law_take T) (da_cons (dv 1) (da_cons de_int da_nil)) (alen1 (alen1 alen0))) de_int))) da_nil)) (alen1 (alen1 alen0)))))
    (dss_cons (ds_if (dt_w (dw_or (dt_not (dt_val (de_call (ok__law_is_going_on (P := P) (w := w) (base := base) T) (hr.mono (by decide)) rfl T.m__law_is_going_on T.D__law_is_going_on.kp (bn__law_is_going_on T) (da_cons (dv 3) (da_cons (dv 4) (da_cons (dv 5) da_nil))) (alen1 (alen1 (alen1 alen0)))))) (dw_or1 (dt_not (dt_val (de_call (ok__law_are_moons_right (P := P) (w := w) (base := base) T) (hr.mono (by decide)) rfl T.m__law_are_moons_right T.D__law_are_moons_right.kp (bn__law_are_moons_right T) (da_cons (dv 1) (da_cons (dv 3) (da_cons (dv 4) (da_cons (dv 5) (da_cons (dv 6) da_nil))))) (alen1 (alen1 (alen1 (alen1 (alen1 alen0))))))))))) (dss_one (ds_ret de_bl)) dss_nil)
    (dss_cons (ds_if (dt_not (dt_val (de_call (ok__law_are_changes_right (P := P) (w := w) (base := base) T) (hr.mono (by decide)) rfl T.m__law_are_changes_right T.D__law_are_changes_right.kp (bn__law_are_changes_right T) (da_cons (dv 1) (da_cons (dv 0) (da_cons (dv 3) (da_cons (dv 4) (da_cons (dv 5) (da_cons (dv 6) da_nil)))))) (alen1 (alen1 (alen1 (alen1 (alen1 (alen1 alen0))))))))) (dss_one (ds_ret de_bl)) dss_nil)
    (dss_one (ds_for PassesOwn.never rfl (di_range1 rfl T.b_range de_int) (dg_name nd rfl (by first | exact .inl rfl | exact .inr rfl)) (dss_cons (ds_set nd rfl (by first | exact .inl rfl | exact .inr rfl) (de_call (ok__law_take (P := P) (w := w) (base := base) T) (hr.mono (by decide)) rfl T.m__law_take T.D__law_take.kp (bn__law_take T) (da_cons (dv 1) (da_cons de_int da_nil)) (alen1 (alen1 alen0))))
    (dss_cons (ds_set nd rfl (by first | exact .inl rfl | exact .inr rfl) (d_add (dv 8) (d_ix hr (de_lst (da_cons (d_mul (d_ix hr (dv 4) de_int) (de_call (ok__law_take (P := P) (w := w) (base := base) T) (hr.mono (by decide)) rfl T.m__law_take T.D__law_take.kp (bn__law_take T) (da_cons (dv 1) (da_cons de_int da_nil)) (alen1 (alen1 alen0)))) (da_cons (de_call (ok__law_take (P := P) (w := w) (base := base) T) (hr.mono (by decide)) rfl T.m__law_take T.D__law_take.kp (bn__law_take T) (da_cons (dv 1) (da_cons de_int da_nil)) (alen1 (alen1 alen0))) da_nil))) (de_call (ok__law_take (P := P) (w := w) (base := base) T) (hr.mono (by decide)) rfl T.m__law_take T.D__law_take.kp (bn__law_take T) (da_cons (dv 1) (da_cons de_int da_nil)) (alen1 (alen1 alen0))))))
    (dss_cons (ds_set nd rfl (by first | exact .inl rfl | exact .inr rfl) (de_call (ok__law_over (P := P) (w := w) (base := base) T) (hr.mono (by decide)) rfl T.m__law_over T.D__law_over.kp (bn__law_over T) (da_cons (de_call (ok__law_whole (P := P) (w := w) (base := base) T) (hr.mono (by decide)) rfl T.m__law_whole T.D__law_whole.kp (bn__law_whole T) (da_cons (d_sub (dv 9) (dv 8)) da_nil) (alen1 alen0)) (da_cons (dv 4) da_nil)) (alen1 (alen1 alen0))))
    (dss_one (ds_if (dt_w (dw_or (dt_not (dt_val (de_call (ok__law_same (P := P) (w := w) (base := base) T 12) (hr.mono (by decide)) rfl T.m__law_same T.D__law_same.kp (bn__law_same T) (da_cons (de_call (ok_same_age (P := P) (w := w) (base := base) T) (hr.mono (by decide)) rfl T.m_same_age T.D_same_age.kp (bn_same_age T) (da_cons (dv 3) (da_cons (dv 4) (da_cons (dv 8) (da_cons (dv 9) da_nil)))) (alen1 (alen1 (alen1 (alen1 alen0))))) (da_cons (d_eq hr (d_ix hr (dv 10) de_int) de_int) da_nil)) (alen1 (alen1 alen0))))) (dw_or1 (t_isn (de_call (ok_same_age (P := P) (w := w) (base := base) T) (hr.mono (by decide)) rfl T.m_same_age T.D_same_age.kp (bn_same_age T) (da_cons (dv 3) (da_cons (dv 4) (da_cons (dv 8) (da_cons (dv 8) da_nil)))) (alen1 (alen1 (alen1 (alen1 alen0))))) de_bl)))) (dss_one (ds_ret de_bl)) dss_nil)))))))))))))
    (dss_cons (ds_if (dt_w (dw_or (dt_not (dt_val (de_call (ok__law_same (P := P) (w := w) (base := base) T 12) (hr.mono (by decide)) rfl T.m__law_same T.D__law_same.kp (bn__law_same T) (da_cons (de_call (ok_spring_days (P := P) (w := w) (base := base) T) (hr.mono (by decide)) rfl T.m_spring_days T.D_spring_days.kp (bn_spring_days T) (da_cons (de_tup (da_cons de_int (da_cons de_int da_nil))) (da_cons (de_tup (da_cons de_int (da_cons de_int da_nil))) (da_cons de_int (da_cons de_int da_nil)))) (alen1 (alen1 (alen1 (alen1 alen0))))) (da_cons (de_tup (da_cons de_int (da_cons de_int (da_cons de_int (da_cons de_int (da_cons de_int da_nil)))))) da_nil)) (alen1 (alen1 alen0))))) (dw_or1 (dt_not (dt_val (de_call (ok__law_same (P := P) (w := w) (base := base) T 12) (hr.mono (by decide)) rfl T.m__law_same T.D__law_same.kp (bn__law_same T) (da_cons (de_call (ok_moons_between (P := P) (w := w) (base := base) T) (hr.mono (by decide)) rfl T.m_moons_between T.D_moons_between.kp (bn_moons_between T) (da_cons (de_tup (da_cons de_int (da_cons de_int da_nil))) (da_cons (de_tup (da_cons de_int (da_cons de_int da_nil))) (da_cons de_int (da_cons de_int da_nil)))) (alen1 (alen1 (alen1 (alen1 alen0))))) (da_cons de_int da_nil)) (alen1 (alen1 alen0)))))))) (dss_one (ds_ret de_bl)) dss_nil)
    (dss_one (ds_ret (de_and (de_call (ok__law_same (P := P) (w := w) (base := base) T 12) (hr.mono (by decide)) rfl T.m__law_same T.D__law_same.kp (bn__law_same T) (da_cons (de_call (ok_age_at (P := P) (w := w) (base := base) T) (hr.mono (by decide)) rfl T.m_age_at T.D_age_at.kp (bn_age_at T) (da_cons (de_tup (da_cons de_int (da_cons de_int da_nil))) (da_cons (de_tup (da_cons de_int (da_cons de_int da_nil))) (da_cons de_int da_nil))) (alen1 (alen1 (alen1 alen0)))) (da_cons (de_tup (da_cons de_int (da_cons de_int da_nil))) da_nil)) (alen1 (alen1 alen0))) (de_and (de_call (ok__law_same (P := P) (w := w) (base := base) T 12) (hr.mono (by decide)) rfl T.m__law_same T.D__law_same.kp (bn__law_same T) (da_cons (de_call (ok_same_age (P := P) (w := w) (base := base) T) (hr.mono (by decide)) rfl T.m_same_age T.D_same_age.kp (bn_same_age T) (da_cons (de_tup (da_cons de_int (da_cons de_int da_nil))) (da_cons (de_tup (da_cons de_int (da_cons de_int da_nil))) (da_cons de_int (da_cons de_int da_nil)))) (alen1 (alen1 (alen1 (alen1 alen0))))) (da_cons de_bl da_nil)) (alen1 (alen1 alen0))) (de_one (de_call (ok__law_same (P := P) (w := w) (base := base) T 12) (hr.mono (by decide)) rfl T.m__law_same T.D__law_same.kp (bn__law_same T) (da_cons (de_call (ok_quarter_at (P := P) (w := w) (base := base) T) (hr.mono (by decide)) rfl T.m_quarter_at T.D_quarter_at.kp (bn_quarter_at T) (da_cons (de_tup (da_cons de_int (da_cons de_int da_nil))) (da_cons (de_tup (da_cons de_int (da_cons de_int da_nil))) (da_cons de_int da_nil))) (alen1 (alen1 (alen1 alen0)))) (da_cons de_int da_nil)) (alen1 (alen1 alen0)))))))))))
end
end K92

set_option Elab.async false
set_option linter.all false
set_option maxRecDepth 100000
set_option maxHeartbeats 4000000
namespace K92
open PySem DL
open L2 (atI)
theorem same_refl : ∀ (k : Nat) (x : D) (st : Sto), tame k x = true → F__law_same (k + 1) [.d x, .d x] st = some (.d (.bl true), st)
  | k, x, st, h => by
    refine of_we ?_
    unfold F__law_same
    cases x with
    | non => simp only [w_seq, KS_nx, KS_rt, KS_bk, KS_ct, w_next, w_set, w_setM, w_drop, w_ret, w_retN, w_brk, w_cnt, w_if, w_asg, w_parB, w_parC, w_N, w_N0, w_N1, w_NT, KF_nx, KF_rt, w_fun, fin_d, fin_fr, w_fin, WE_some, WT_some, WA_some, WI_some, WS_some, WV_d, WV_fr, WV_loc, WVT_d, WVT_fr, WB_bl, WF_fr, WG_some, WO_some, WO_ite, WO_map, w_var, w_C, w_op, w_un, w_test, w_chain, w_and, w_or, w_not, w_VT, w_ifE, w_A0, w_A1, w_call, w_blt, w_curs0, w_curs1, w_vals0, w_vals1, w_tup, w_lst, w_yes, WL_loc, w_app, w_pop, w_rev, w_put, w_getI, w_isi, w_p0, w_p1, w_sl, w_lstR, w_tupR, w_newK, w_newT, KL_nx, KL_ct, KL_bk, KL_rt, wipeE, clr_nil, clr_cons, c1_none, c1_d, c1_loc, WC_z, WC_s, lt_a1, lt_a2, lt_a3, st_take2, put_lst, put_dK, kit_bb, kit_ib, kit_ii, kit_sb, kit_si, kit_ss, kit_tb, kit_ti, kit_ts, kit_tt, ty_int, ty_bl, ty_str, ty_tup, add_int, add_str, add_tup, add_lst, sub_int, mul_int', mul_lst, fdiv_int, mod_int, pow_int, neg_int, lt_int', le_int', gt_int', ge_int', is_non, isn_non, is_bl, isn_bl, isNon_int, isNon_str, isNon_tup, isNon_bl, isNon_non, len_str, len_tup, len_lst, len_frl, len_dK, int_int, int_bl, abs_int, sum_lst, any_lst, all_lst, max2_int, min2_int, tuple_lst, tuple_tup, list_lst, list_tup, ix_tup, ix_lst, ix_frl, ix_frt, sl_tup, sl_lst, tg_d, tg_fr, tg_loc, cellV_lst, cellV_dK, cellV_dT, eq_int, ne_int, eq_bl, ne_bl, in_ints_tup, in_ints_lst, atI_0, atI_1, atI_2, atI_3, st_len, st_at, st_at1, st_set, st_set1, st_take, st_take1, st_all, st_lt, List.map_cons, List.map_nil, List.length_cons, List.length_nil, List.length_map, List.getElem?_cons_zero, List.getElem?_cons_succ, List.set_cons_zero, List.set_cons_succ, List.cons_append, List.nil_append, List.append_nil, List.replicate_succ, List.replicate_zero, List.append_assoc, Nat.reduceAdd, Nat.reduceSub, Nat.reduceLT, Nat.zero_add, Nat.add_zero, true_implies, false_implies, and_true, true_and, implies_true, List.length_set, take_set, List.getElem?_set_self, Bool.not_true, decide_true, decide_false, Bool.not_false, decide_eq_true_eq, decide_eq_false_iff_not, Bool.true_eq_false, Bool.false_eq_true, Option.some.injEq, exists_eq_left, exists_eq_left', R.d.injEq, D.int.injEq, D.bl.injEq, if_true, if_false, reduceIte, not_true_eq_false, not_false_eq_true, List.take_zero, List.take_succ_cons, and_self, Option.map_some, Bool.false_xor, Bool.and_self, Bool.true_and, Bool.and_true, Bool.true_xor]
    | bl b => simp only [w_seq, KS_nx, KS_rt, KS_bk, KS_ct, w_next, w_set, w_setM, w_drop, w_ret, w_retN, w_brk, w_cnt, w_if, w_asg, w_parB, w_parC, w_N, w_N0, w_N1, w_NT, KF_nx, KF_rt, w_fun, fin_d, fin_fr, w_fin, WE_some, WT_some, WA_some, WI_some, WS_some, WV_d, WV_fr, WV_loc, WVT_d, WVT_fr, WB_bl, WF_fr, WG_some, WO_some, WO_ite, WO_map, w_var, w_C, w_op, w_un, w_test, w_chain, w_and, w_or, w_not, w_VT, w_ifE, w_A0, w_A1, w_call, w_blt, w_curs0, w_curs1, w_vals0, w_vals1, w_tup, w_lst, w_yes, WL_loc, w_app, w_pop, w_rev, w_put, w_getI, w_isi, w_p0, w_p1, w_sl, w_lstR, w_tupR, w_newK, w_newT, KL_nx, KL_ct, KL_bk, KL_rt, wipeE, clr_nil, clr_cons, c1_none, c1_d, c1_loc, WC_z, WC_s, lt_a1, lt_a2, lt_a3, st_take2, put_lst, put_dK, kit_bb, kit_ib, kit_ii, kit_sb, kit_si, kit_ss, kit_tb, kit_ti, kit_ts, kit_tt, ty_int, ty_bl, ty_str, ty_tup, add_int, add_str, add_tup, add_lst, sub_int, mul_int', mul_lst, fdiv_int, mod_int, pow_int, neg_int, lt_int', le_int', gt_int', ge_int', is_non, isn_non, is_bl, isn_bl, isNon_int, isNon_str, isNon_tup, isNon_bl, isNon_non, len_str, len_tup, len_lst, len_frl, len_dK, int_int, int_bl, abs_int, sum_lst, any_lst, all_lst, max2_int, min2_int, tuple_lst, tuple_tup, list_lst, list_tup, ix_tup, ix_lst, ix_frl, ix_frt, sl_tup, sl_lst, tg_d, tg_fr, tg_loc, cellV_lst, cellV_dK, cellV_dT, eq_int, ne_int, eq_bl, ne_bl, in_ints_tup, in_ints_lst, atI_0, atI_1, atI_2, atI_3, st_len, st_at, st_at1, st_set, st_set1, st_take, st_take1, st_all, st_lt, List.map_cons, List.map_nil, List.length_cons, List.length_nil, List.length_map, List.getElem?_cons_zero, List.getElem?_cons_succ, List.set_cons_zero, List.set_cons_succ, List.cons_append, List.nil_append, List.append_nil, List.replicate_succ, List.replicate_zero, List.append_assoc, Nat.reduceAdd, Nat.reduceSub, Nat.reduceLT, Nat.zero_add, Nat.add_zero, true_implies, false_implies, and_true, true_and, implies_true, List.length_set, take_set, List.getElem?_set_self, Bool.not_true, decide_true, decide_false, Bool.not_false, decide_eq_true_eq, decide_eq_false_iff_not, Bool.true_eq_false, Bool.false_eq_true, Option.some.injEq, exists_eq_left, exists_eq_left', R.d.injEq, D.int.injEq, D.bl.injEq, if_true, if_false, reduceIte, not_true_eq_false, not_false_eq_true, List.take_zero, List.take_succ_cons, and_self, Option.map_some, Bool.false_xor, Bool.and_self, Bool.true_and, Bool.and_true, Bool.true_xor]
    | int i => simp only [w_seq, KS_nx, KS_rt, KS_bk, KS_ct, w_next, w_set, w_setM, w_drop, w_ret, w_retN, w_brk, w_cnt, w_if, w_asg, w_parB, w_parC, w_N, w_N0, w_N1, w_NT, KF_nx, KF_rt, w_fun, fin_d, fin_fr, w_fin, WE_some, WT_some, WA_some, WI_some, WS_some, WV_d, WV_fr, WV_loc, WVT_d, WVT_fr, WB_bl, WF_fr, WG_some, WO_some, WO_ite, WO_map, w_var, w_C, w_op, w_un, w_test, w_chain, w_and, w_or, w_not, w_VT, w_ifE, w_A0, w_A1, w_call, w_blt, w_curs0, w_curs1, w_vals0, w_vals1, w_tup, w_lst, w_yes, WL_loc, w_app, w_pop, w_rev, w_put, w_getI, w_isi, w_p0, w_p1, w_sl, w_lstR, w_tupR, w_newK, w_newT, KL_nx, KL_ct, KL_bk, KL_rt, wipeE, clr_nil, clr_cons, c1_none, c1_d, c1_loc, WC_z, WC_s, lt_a1, lt_a2, lt_a3, st_take2, put_lst, put_dK, kit_bb, kit_ib, kit_ii, kit_sb, kit_si, kit_ss, kit_tb, kit_ti, kit_ts, kit_tt, ty_int, ty_bl, ty_str, ty_tup, add_int, add_str, add_tup, add_lst, sub_int, mul_int', mul_lst, fdiv_int, mod_int, pow_int, neg_int, lt_int', le_int', gt_int', ge_int', is_non, isn_non, is_bl, isn_bl, isNon_int, isNon_str, isNon_tup, isNon_bl, isNon_non, len_str, len_tup, len_lst, len_frl, len_dK, int_int, int_bl, abs_int, sum_lst, any_lst, all_lst, max2_int, min2_int, tuple_lst, tuple_tup, list_lst, list_tup, ix_tup, ix_lst, ix_frl, ix_frt, sl_tup, sl_lst, tg_d, tg_fr, tg_loc, cellV_lst, cellV_dK, cellV_dT, eq_int, ne_int, eq_bl, ne_bl, in_ints_tup, in_ints_lst, atI_0, atI_1, atI_2, atI_3, st_len, st_at, st_at1, st_set, st_set1, st_take, st_take1, st_all, st_lt, List.map_cons, List.map_nil, List.length_cons, List.length_nil, List.length_map, List.getElem?_cons_zero, List.getElem?_cons_succ, List.set_cons_zero, List.set_cons_succ, List.cons_append, List.nil_append, List.append_nil, List.replicate_succ, List.replicate_zero, List.append_assoc, Nat.reduceAdd, Nat.reduceSub, Nat.reduceLT, Nat.zero_add, Nat.add_zero, true_implies, false_implies, and_true, true_and, implies_true, List.length_set, take_set, List.getElem?_set_self, Bool.not_true, decide_true, decide_false, Bool.not_false, decide_eq_true_eq, decide_eq_false_iff_not, Bool.true_eq_false, Bool.false_eq_true, Option.some.injEq, exists_eq_left, exists_eq_left', R.d.injEq, D.int.injEq, D.bl.injEq, if_true, if_false, reduceIte, not_true_eq_false, not_false_eq_true, List.take_zero, List.take_succ_cons, and_self, Option.map_some, Bool.false_xor, Bool.and_self, Bool.true_and, Bool.and_true, Bool.true_xor]
    | str y =>
      have hy : PyData.strOk y = true := by cases k <;> (unfold tame at h; exact h)
      simp only [w_seq, KS_nx, KS_rt, KS_bk, KS_ct, w_next, w_set, w_setM, w_drop, w_ret, w_retN, w_brk, w_cnt, w_if, w_asg, w_parB, w_parC, w_N, w_N0, w_N1, w_NT, KF_nx, KF_rt, w_fun, fin_d, fin_fr, w_fin, WE_some, WT_some, WA_some, WI_some, WS_some, WV_d, WV_fr, WV_loc, WVT_d, WVT_fr, WB_bl, WF_fr, WG_some, WO_some, WO_ite, WO_map, w_var, w_C, w_op, w_un, w_test, w_chain, w_and, w_or, w_not, w_VT, w_ifE, w_A0, w_A1, w_call, w_blt, w_curs0, w_curs1, w_vals0, w_vals1, w_tup, w_lst, w_yes, WL_loc, w_app, w_pop, w_rev, w_put, w_getI, w_isi, w_p0, w_p1, w_sl, w_lstR, w_tupR, w_newK, w_newT, KL_nx, KL_ct, KL_bk, KL_rt, wipeE, clr_nil, clr_cons, c1_none, c1_d, c1_loc, WC_z, WC_s, lt_a1, lt_a2, lt_a3, st_take2, put_lst, put_dK, kit_bb, kit_ib, kit_ii, kit_sb, kit_si, kit_ss, kit_tb, kit_ti, kit_ts, kit_tt, ty_int, ty_bl, ty_str, ty_tup, add_int, add_str, add_tup, add_lst, sub_int, mul_int', mul_lst, fdiv_int, mod_int, pow_int, neg_int, lt_int', le_int', gt_int', ge_int', is_non, isn_non, is_bl, isn_bl, isNon_int, isNon_str, isNon_tup, isNon_bl, isNon_non, len_str, len_tup, len_lst, len_frl, len_dK, int_int, int_bl, abs_int, sum_lst, any_lst, all_lst, max2_int, min2_int, tuple_lst, tuple_tup, list_lst, list_tup, ix_tup, ix_lst, ix_frl, ix_frt, sl_tup, sl_lst, tg_d, tg_fr, tg_loc, cellV_lst, cellV_dK, cellV_dT, eq_int, ne_int, eq_bl, ne_bl, in_ints_tup, in_ints_lst, atI_0, atI_1, atI_2, atI_3, st_len, st_at, st_at1, st_set, st_set1, st_take, st_take1, st_all, st_lt, List.map_cons, List.map_nil, List.length_cons, List.length_nil, List.length_map, List.getElem?_cons_zero, List.getElem?_cons_succ, List.set_cons_zero, List.set_cons_succ, List.cons_append, List.nil_append, List.append_nil, List.replicate_succ, List.replicate_zero, List.append_assoc, Nat.reduceAdd, Nat.reduceSub, Nat.reduceLT, Nat.zero_add, Nat.add_zero, true_implies, false_implies, and_true, true_and, implies_true, List.length_set, take_set, List.getElem?_set_self, Bool.not_true, decide_true, decide_false, Bool.not_false, decide_eq_true_eq, decide_eq_false_iff_not, Bool.true_eq_false, Bool.false_eq_true, Option.some.injEq, exists_eq_left, exists_eq_left', R.d.injEq, D.int.injEq, D.bl.injEq, if_true, if_false, reduceIte, not_true_eq_false, not_false_eq_true, List.take_zero, List.take_succ_cons, and_self, Option.map_some, Bool.false_xor, Bool.and_self, Bool.true_and, Bool.and_true, Bool.true_xor, eq_str hy hy]
    | tup xs =>
      cases k with
      | zero => unfold tame at h; cases h
      | succ k =>
        rw [tame_tup, Bool.and_eq_true, decide_eq_true_eq] at h
        simp only [w_seq, KS_nx, KS_rt, KS_bk, KS_ct, w_next, w_set, w_setM, w_drop, w_ret, w_retN, w_brk, w_cnt, w_if, w_asg, w_parB, w_parC, w_N, w_N0, w_N1, w_NT, KF_nx, KF_rt, w_fun, fin_d, fin_fr, w_fin, WE_some, WT_some, WA_some, WI_some, WS_some, WV_d, WV_fr, WV_loc, WVT_d, WVT_fr, WB_bl, WF_fr, WG_some, WO_some, WO_ite, WO_map, w_var, w_C, w_op, w_un, w_test, w_chain, w_and, w_or, w_not, w_VT, w_ifE, w_A0, w_A1, w_call, w_blt, w_curs0, w_curs1, w_vals0, w_vals1, w_tup, w_lst, w_yes, WL_loc, w_app, w_pop, w_rev, w_put, w_getI, w_isi, w_p0, w_p1, w_sl, w_lstR, w_tupR, w_newK, w_newT, KL_nx, KL_ct, KL_bk, KL_rt, wipeE, clr_nil, clr_cons, c1_none, c1_d, c1_loc, WC_z, WC_s, lt_a1, lt_a2, lt_a3, st_take2, put_lst, put_dK, kit_bb, kit_ib, kit_ii, kit_sb, kit_si, kit_ss, kit_tb, kit_ti, kit_ts, kit_tt, ty_int, ty_bl, ty_str, ty_tup, add_int, add_str, add_tup, add_lst, sub_int, mul_int', mul_lst, fdiv_int, mod_int, pow_int, neg_int, lt_int', le_int', gt_int', ge_int', is_non, isn_non, is_bl, isn_bl, isNon_int, isNon_str, isNon_tup, isNon_bl, isNon_non, len_str, len_tup, len_lst, len_frl, len_dK, int_int, int_bl, abs_int, sum_lst, any_lst, all_lst, max2_int, min2_int, tuple_lst, tuple_tup, list_lst, list_tup, ix_tup, ix_lst, ix_frl, ix_frt, sl_tup, sl_lst, tg_d, tg_fr, tg_loc, cellV_lst, cellV_dK, cellV_dT, eq_int, ne_int, eq_bl, ne_bl, in_ints_tup, in_ints_lst, atI_0, atI_1, atI_2, atI_3, st_len, st_at, st_at1, st_set, st_set1, st_take, st_take1, st_all, st_lt, List.map_cons, List.map_nil, List.length_cons, List.length_nil, List.length_map, List.getElem?_cons_zero, List.getElem?_cons_succ, List.set_cons_zero, List.set_cons_succ, List.cons_append, List.nil_append, List.append_nil, List.replicate_succ, List.replicate_zero, List.append_assoc, Nat.reduceAdd, Nat.reduceSub, Nat.reduceLT, Nat.zero_add, Nat.add_zero, true_implies, false_implies, and_true, true_and, implies_true, List.length_set, take_set, List.getElem?_set_self, Bool.not_true, decide_true, decide_false, Bool.not_false, decide_eq_true_eq, decide_eq_false_iff_not, Bool.true_eq_false, Bool.false_eq_true, Option.some.injEq, exists_eq_left, exists_eq_left', R.d.injEq, D.int.injEq, D.bl.injEq, if_true, if_false, reduceIte, not_true_eq_false, not_false_eq_true, List.take_zero, List.take_succ_cons, and_self, Option.map_some, Bool.false_xor, Bool.and_self, Bool.true_and, Bool.and_true, Bool.true_xor]
        refine w_for (n := st.length) (fun i : Nat => D.int (i : Int)) (List.range xs.length) (fun done e s => s = st ∧ ∃ x, e = [some (.d (.tup xs)), some (.d (.tup xs)), x]) (wi_rng1 ?_) ?_ ?_
        · simp only [w_seq, KS_nx, KS_rt, KS_bk, KS_ct, w_next, w_set, w_setM, w_drop, w_ret, w_retN, w_brk, w_cnt, w_if, w_asg, w_parB, w_parC, w_N, w_N0, w_N1, w_NT, KF_nx, KF_rt, w_fun, fin_d, fin_fr, w_fin, WE_some, WT_some, WA_some, WI_some, WS_some, WV_d, WV_fr, WV_loc, WVT_d, WVT_fr, WB_bl, WF_fr, WG_some, WO_some, WO_ite, WO_map, w_var, w_C, w_op, w_un, w_test, w_chain, w_and, w_or, w_not, w_VT, w_ifE, w_A0, w_A1, w_call, w_blt, w_curs0, w_curs1, w_vals0, w_vals1, w_tup, w_lst, w_yes, WL_loc, w_app, w_pop, w_rev, w_put, w_getI, w_isi, w_p0, w_p1, w_sl, w_lstR, w_tupR, w_newK, w_newT, KL_nx, KL_ct, KL_bk, KL_rt, wipeE, clr_nil, clr_cons, c1_none, c1_d, c1_loc, WC_z, WC_s, lt_a1, lt_a2, lt_a3, st_take2, put_lst, put_dK, kit_bb, kit_ib, kit_ii, kit_sb, kit_si, kit_ss, kit_tb, kit_ti, kit_ts, kit_tt, ty_int, ty_bl, ty_str, ty_tup, add_int, add_str, add_tup, add_lst, sub_int, mul_int', mul_lst, fdiv_int, mod_int, pow_int, neg_int, lt_int', le_int', gt_int', ge_int', is_non, isn_non, is_bl, isn_bl, isNon_int, isNon_str, isNon_tup, isNon_bl, isNon_non, len_str, len_tup, len_lst, len_frl, len_dK, int_int, int_bl, abs_int, sum_lst, any_lst, all_lst, max2_int, min2_int, tuple_lst, tuple_tup, list_lst, list_tup, ix_tup, ix_lst, ix_frl, ix_frt, sl_tup, sl_lst, tg_d, tg_fr, tg_loc, cellV_lst, cellV_dK, cellV_dT, eq_int, ne_int, eq_bl, ne_bl, in_ints_tup, in_ints_lst, atI_0, atI_1, atI_2, atI_3, st_len, st_at, st_at1, st_set, st_set1, st_take, st_take1, st_all, st_lt, List.map_cons, List.map_nil, List.length_cons, List.length_nil, List.length_map, List.getElem?_cons_zero, List.getElem?_cons_succ, List.set_cons_zero, List.set_cons_succ, List.cons_append, List.nil_append, List.append_nil, List.replicate_succ, List.replicate_zero, List.append_assoc, Nat.reduceAdd, Nat.reduceSub, Nat.reduceLT, Nat.zero_add, Nat.add_zero, true_implies, false_implies, and_true, true_and, implies_true, List.length_set, take_set, List.getElem?_set_self, Bool.not_true, decide_true, decide_false, Bool.not_false, decide_eq_true_eq, decide_eq_false_iff_not, Bool.true_eq_false, Bool.false_eq_true, Option.some.injEq, exists_eq_left, exists_eq_left', R.d.injEq, D.int.injEq, D.bl.injEq, if_true, if_false, reduceIte, not_true_eq_false, not_false_eq_true, List.take_zero, List.take_succ_cons, and_self, Option.map_some, Bool.false_xor, Bool.and_self, Bool.true_and, Bool.and_true, Bool.true_xor]
          exact ⟨sm_nat (by omega), by rw [Int.toNat_natCast, rg0], ⟨_, rfl⟩, fun _ _ _ _ => trivial⟩
        · rintro done i rest env s he ⟨rfl, x, rfl⟩
          obtain ⟨_, hi⟩ := range_at he
          have e1 : atI xs (i : Int) = some xs[i] := by rw [atI_nat]; exact List.getElem?_eq_getElem hi
          simp only [w_seq, KS_nx, KS_rt, KS_bk, KS_ct, w_next, w_set, w_setM, w_drop, w_ret, w_retN, w_brk, w_cnt, w_if, w_asg, w_parB, w_parC, w_N, w_N0, w_N1, w_NT, KF_nx, KF_rt, w_fun, fin_d, fin_fr, w_fin, WE_some, WT_some, WA_some, WI_some, WS_some, WV_d, WV_fr, WV_loc, WVT_d, WVT_fr, WB_bl, WF_fr, WG_some, WO_some, WO_ite, WO_map, w_var, w_C, w_op, w_un, w_test, w_chain, w_and, w_or, w_not, w_VT, w_ifE, w_A0, w_A1, w_call, w_blt, w_curs0, w_curs1, w_vals0, w_vals1, w_tup, w_lst, w_yes, WL_loc, w_app, w_pop, w_rev, w_put, w_getI, w_isi, w_p0, w_p1, w_sl, w_lstR, w_tupR, w_newK, w_newT, KL_nx, KL_ct, KL_bk, KL_rt, wipeE, clr_nil, clr_cons, c1_none, c1_d, c1_loc, WC_z, WC_s, lt_a1, lt_a2, lt_a3, st_take2, put_lst, put_dK, kit_bb, kit_ib, kit_ii, kit_sb, kit_si, kit_ss, kit_tb, kit_ti, kit_ts, kit_tt, ty_int, ty_bl, ty_str, ty_tup, add_int, add_str, add_tup, add_lst, sub_int, mul_int', mul_lst, fdiv_int, mod_int, pow_int, neg_int, lt_int', le_int', gt_int', ge_int', is_non, isn_non, is_bl, isn_bl, isNon_int, isNon_str, isNon_tup, isNon_bl, isNon_non, len_str, len_tup, len_lst, len_frl, len_dK, int_int, int_bl, abs_int, sum_lst, any_lst, all_lst, max2_int, min2_int, tuple_lst, tuple_tup, list_lst, list_tup, ix_tup, ix_lst, ix_frl, ix_frt, sl_tup, sl_lst, tg_d, tg_fr, tg_loc, cellV_lst, cellV_dK, cellV_dT, eq_int, ne_int, eq_bl, ne_bl, in_ints_tup, in_ints_lst, atI_0, atI_1, atI_2, atI_3, st_len, st_at, st_at1, st_set, st_set1, st_take, st_take1, st_all, st_lt, List.map_cons, List.map_nil, List.length_cons, List.length_nil, List.length_map, List.getElem?_cons_zero, List.getElem?_cons_succ, List.set_cons_zero, List.set_cons_succ, List.cons_append, List.nil_append, List.append_nil, List.replicate_succ, List.replicate_zero, List.append_assoc, Nat.reduceAdd, Nat.reduceSub, Nat.reduceLT, Nat.zero_add, Nat.add_zero, true_implies, false_implies, and_true, true_and, implies_true, List.length_set, take_set, List.getElem?_set_self, Bool.not_true, decide_true, decide_false, Bool.not_false, decide_eq_true_eq, decide_eq_false_iff_not, Bool.true_eq_false, Bool.false_eq_true, Option.some.injEq, exists_eq_left, exists_eq_left', R.d.injEq, D.int.injEq, D.bl.injEq, if_true, if_false, reduceIte, not_true_eq_false, not_false_eq_true, List.take_zero, List.take_succ_cons, and_self, Option.map_some, Bool.false_xor, Bool.and_self, Bool.true_and, Bool.and_true, Bool.true_xor, e1, same_refl k xs[i] s (tames_mem.mp h.2 _ (List.getElem_mem hi))]
          exact ⟨_, rfl⟩
        · rintro env s ⟨rfl, x, rfl⟩
          simp only [w_seq, KS_nx, KS_rt, KS_bk, KS_ct, w_next, w_set, w_setM, w_drop, w_ret, w_retN, w_brk, w_cnt, w_if, w_asg, w_parB, w_parC, w_N, w_N0, w_N1, w_NT, KF_nx, KF_rt, w_fun, fin_d, fin_fr, w_fin, WE_some, WT_some, WA_some, WI_some, WS_some, WV_d, WV_fr, WV_loc, WVT_d, WVT_fr, WB_bl, WF_fr, WG_some, WO_some, WO_ite, WO_map, w_var, w_C, w_op, w_un, w_test, w_chain, w_and, w_or, w_not, w_VT, w_ifE, w_A0, w_A1, w_call, w_blt, w_curs0, w_curs1, w_vals0, w_vals1, w_tup, w_lst, w_yes, WL_loc, w_app, w_pop, w_rev, w_put, w_getI, w_isi, w_p0, w_p1, w_sl, w_lstR, w_tupR, w_newK, w_newT, KL_nx, KL_ct, KL_bk, KL_rt, wipeE, clr_nil, clr_cons, c1_none, c1_d, c1_loc, WC_z, WC_s, lt_a1, lt_a2, lt_a3, st_take2, put_lst, put_dK, kit_bb, kit_ib, kit_ii, kit_sb, kit_si, kit_ss, kit_tb, kit_ti, kit_ts, kit_tt, ty_int, ty_bl, ty_str, ty_tup, add_int, add_str, add_tup, add_lst, sub_int, mul_int', mul_lst, fdiv_int, mod_int, pow_int, neg_int, lt_int', le_int', gt_int', ge_int', is_non, isn_non, is_bl, isn_bl, isNon_int, isNon_str, isNon_tup, isNon_bl, isNon_non, len_str, len_tup, len_lst, len_frl, len_dK, int_int, int_bl, abs_int, sum_lst, any_lst, all_lst, max2_int, min2_int, tuple_lst, tuple_tup, list_lst, list_tup, ix_tup, ix_lst, ix_frl, ix_frt, sl_tup, sl_lst, tg_d, tg_fr, tg_loc, cellV_lst, cellV_dK, cellV_dT, eq_int, ne_int, eq_bl, ne_bl, in_ints_tup, in_ints_lst, atI_0, atI_1, atI_2, atI_3, st_len, st_at, st_at1, st_set, st_set1, st_take, st_take1, st_all, st_lt, List.map_cons, List.map_nil, List.length_cons, List.length_nil, List.length_map, List.getElem?_cons_zero, List.getElem?_cons_succ, List.set_cons_zero, List.set_cons_succ, List.cons_append, List.nil_append, List.append_nil, List.replicate_succ, List.replicate_zero, List.append_assoc, Nat.reduceAdd, Nat.reduceSub, Nat.reduceLT, Nat.zero_add, Nat.add_zero, true_implies, false_implies, and_true, true_and, implies_true, List.length_set, take_set, List.getElem?_set_self, Bool.not_true, decide_true, decide_false, Bool.not_false, decide_eq_true_eq, decide_eq_false_iff_not, Bool.true_eq_false, Bool.false_eq_true, Option.some.injEq, exists_eq_left, exists_eq_left', R.d.injEq, D.int.injEq, D.bl.injEq, if_true, if_false, reduceIte, not_true_eq_false, not_false_eq_true, List.take_zero, List.take_succ_cons, and_self, Option.map_some, Bool.false_xor, Bool.and_self, Bool.true_and, Bool.and_true, Bool.true_xor]
    | _ => cases k <;> (unfold tame at h; cases h)
theorem take_ok {n : Nat} {m : Int} {ds : List Int} {st : Sto} {Q : R → Sto → Prop} (hn : st[n]? = some (.lst (ds.map D.int))) (hm : 0 < m)
    (h : ∀ (v : Int) (ds' : List Int), 0 ≤ v → v < m → Q (.d (.int v)) (st.set n (.lst (ds'.map D.int)))) : WE (F__law_take [.loc n, .d (.int m)] st) Q := by
  unfold F__law_take
  have hl : n < st.length := (List.getElem?_eq_some_iff.mp hn).1
  simp only [w_seq, KS_nx, KS_rt, KS_bk, KS_ct, w_next, w_set, w_setM, w_drop, w_ret, w_retN, w_brk, w_cnt, w_if, w_asg, w_parB, w_parC, w_N, w_N0, w_N1, w_NT, KF_nx, KF_rt, w_fun, fin_d, fin_fr, w_fin, WE_some, WT_some, WA_some, WI_some, WS_some, WV_d, WV_fr, WV_loc, WVT_d, WVT_fr, WB_bl, WF_fr, WG_some, WO_some, WO_ite, WO_map, w_var, w_C, w_op, w_un, w_test, w_chain, w_and, w_or, w_not, w_VT, w_ifE, w_A0, w_A1, w_call, w_blt, w_curs0, w_curs1, w_vals0, w_vals1, w_tup, w_lst, w_yes, WL_loc, w_app, w_pop, w_rev, w_put, w_getI, w_isi, w_p0, w_p1, w_sl, w_lstR, w_tupR, w_newK, w_newT, KL_nx, KL_ct, KL_bk, KL_rt, wipeE, clr_nil, clr_cons, c1_none, c1_d, c1_loc, WC_z, WC_s, lt_a1, lt_a2, lt_a3, st_take2, put_lst, put_dK, kit_bb, kit_ib, kit_ii, kit_sb, kit_si, kit_ss, kit_tb, kit_ti, kit_ts, kit_tt, ty_int, ty_bl, ty_str, ty_tup, add_int, add_str, add_tup, add_lst, sub_int, mul_int', mul_lst, fdiv_int, mod_int, pow_int, neg_int, lt_int', le_int', gt_int', ge_int', is_non, isn_non, is_bl, isn_bl, isNon_int, isNon_str, isNon_tup, isNon_bl, isNon_non, len_str, len_tup, len_lst, len_frl, len_dK, int_int, int_bl, abs_int, sum_lst, any_lst, all_lst, max2_int, min2_int, tuple_lst, tuple_tup, list_lst, list_tup, ix_tup, ix_lst, ix_frl, ix_frt, sl_tup, sl_lst, tg_d, tg_fr, tg_loc, cellV_lst, cellV_dK, cellV_dT, eq_int, ne_int, eq_bl, ne_bl, in_ints_tup, in_ints_lst, atI_0, atI_1, atI_2, atI_3, st_len, st_at, st_at1, st_set, st_set1, st_take, st_take1, st_all, st_lt, List.map_cons, List.map_nil, List.length_cons, List.length_nil, List.length_map, List.getElem?_cons_zero, List.getElem?_cons_succ, List.set_cons_zero, List.set_cons_succ, List.cons_append, List.nil_append, List.append_nil, List.replicate_succ, List.replicate_zero, List.append_assoc, Nat.reduceAdd, Nat.reduceSub, Nat.reduceLT, Nat.zero_add, Nat.add_zero, true_implies, false_implies, and_true, true_and, implies_true, List.length_set, take_set, List.getElem?_set_self, Bool.not_true, decide_true, decide_false, Bool.not_false, decide_eq_true_eq, decide_eq_false_iff_not, Bool.true_eq_false, Bool.false_eq_true, Option.some.injEq, exists_eq_left, exists_eq_left', R.d.injEq, D.int.injEq, D.bl.injEq, if_true, if_false, reduceIte, not_true_eq_false, not_false_eq_true, List.take_zero, List.take_succ_cons, and_self, Option.map_some, Bool.false_xor, Bool.and_self, Bool.true_and, Bool.and_true, Bool.true_xor, hn, WC_of hn]
  refine ⟨fun _ => ?_, fun h0 => ?_⟩
  · have := h 0 ds (by omega) hm
    rwa [set_self hn] at this
  · have h1 : ds.length - 1 < ds.length := by omega
    rw [List.getElem?_eq_getElem (by rw [List.length_map]; exact h1), List.getElem_map]
    simp only [w_seq, KS_nx, KS_rt, KS_bk, KS_ct, w_next, w_set, w_setM, w_drop, w_ret, w_retN, w_brk, w_cnt, w_if, w_asg, w_parB, w_parC, w_N, w_N0, w_N1, w_NT, KF_nx, KF_rt, w_fun, fin_d, fin_fr, w_fin, WE_some, WT_some, WA_some, WI_some, WS_some, WV_d, WV_fr, WV_loc, WVT_d, WVT_fr, WB_bl, WF_fr, WG_some, WO_some, WO_ite, WO_map, w_var, w_C, w_op, w_un, w_test, w_chain, w_and, w_or, w_not, w_VT, w_ifE, w_A0, w_A1, w_call, w_blt, w_curs0, w_curs1, w_vals0, w_vals1, w_tup, w_lst, w_yes, WL_loc, w_app, w_pop, w_rev, w_put, w_getI, w_isi, w_p0, w_p1, w_sl, w_lstR, w_tupR, w_newK, w_newT, KL_nx, KL_ct, KL_bk, KL_rt, wipeE, clr_nil, clr_cons, c1_none, c1_d, c1_loc, WC_z, WC_s, lt_a1, lt_a2, lt_a3, st_take2, put_lst, put_dK, kit_bb, kit_ib, kit_ii, kit_sb, kit_si, kit_ss, kit_tb, kit_ti, kit_ts, kit_tt, ty_int, ty_bl, ty_str, ty_tup, add_int, add_str, add_tup, add_lst, sub_int, mul_int', mul_lst, fdiv_int, mod_int, pow_int, neg_int, lt_int', le_int', gt_int', ge_int', is_non, isn_non, is_bl, isn_bl, isNon_int, isNon_str, isNon_tup, isNon_bl, isNon_non, len_str, len_tup, len_lst, len_frl, len_dK, int_int, int_bl, abs_int, sum_lst, any_lst, all_lst, max2_int, min2_int, tuple_lst, tuple_tup, list_lst, list_tup, ix_tup, ix_lst, ix_frl, ix_frt, sl_tup, sl_lst, tg_d, tg_fr, tg_loc, cellV_lst, cellV_dK, cellV_dT, eq_int, ne_int, eq_bl, ne_bl, in_ints_tup, in_ints_lst, atI_0, atI_1, atI_2, atI_3, st_len, st_at, st_at1, st_set, st_set1, st_take, st_take1, st_all, st_lt, List.map_cons, List.map_nil, List.length_cons, List.length_nil, List.length_map, List.getElem?_cons_zero, List.getElem?_cons_succ, List.set_cons_zero, List.set_cons_succ, List.cons_append, List.nil_append, List.append_nil, List.replicate_succ, List.replicate_zero, List.append_assoc, Nat.reduceAdd, Nat.reduceSub, Nat.reduceLT, Nat.zero_add, Nat.add_zero, true_implies, false_implies, and_true, true_and, implies_true, List.length_set, take_set, List.getElem?_set_self, Bool.not_true, decide_true, decide_false, Bool.not_false, decide_eq_true_eq, decide_eq_false_iff_not, Bool.true_eq_false, Bool.false_eq_true, Option.some.injEq, exists_eq_left, exists_eq_left', R.d.injEq, D.int.injEq, D.bl.injEq, if_true, if_false, reduceIte, not_true_eq_false, not_false_eq_true, List.take_zero, List.take_succ_cons, and_self, Option.map_some, Bool.false_xor, Bool.and_self, Bool.true_and, Bool.and_true, Bool.true_xor]
    refine ⟨by omega, ?_⟩
    rw [← List.map_dropLast]
    exact h _ _ (Int.fmod_nonneg_of_pos _ hm) (Int.fmod_lt_of_pos _ hm)
theorem draws_ok {ns : List Int} {m : Nat} {st : Sto} (hl : ns.length ≤ 63) (hm : m < 1000000) : ∃ ds : List Int, F__law_draws [.d (.frl (ns.map D.int)), .d (.int m)] st = some (.fr (.lst (ds.map D.int)), st) := by
  suffices h : WE (F__law_draws [.d (.frl (ns.map D.int)), .d (.int m)] st) (fun r s => (∃ ds : List Int, r = .fr (.lst (ds.map D.int))) ∧ s = st) by
    obtain ⟨r, s, e, ⟨ds, rfl⟩, rfl⟩ := h
    exact ⟨ds, e⟩
  unfold F__law_draws
  simp only [w_seq, KS_nx, KS_rt, KS_bk, KS_ct, w_next, w_set, w_setM, w_drop, w_ret, w_retN, w_brk, w_cnt, w_if, w_asg, w_parB, w_parC, w_N, w_N0, w_N1, w_NT, KF_nx, KF_rt, w_fun, fin_d, fin_fr, w_fin, WE_some, WT_some, WA_some, WI_some, WS_some, WV_d, WV_fr, WV_loc, WVT_d, WVT_fr, WB_bl, WF_fr, WG_some, WO_some, WO_ite, WO_map, w_var, w_C, w_op, w_un, w_test, w_chain, w_and, w_or, w_not, w_VT, w_ifE, w_A0, w_A1, w_call, w_blt, w_curs0, w_curs1, w_vals0, w_vals1, w_tup, w_lst, w_yes, WL_loc, w_app, w_pop, w_rev, w_put, w_getI, w_isi, w_p0, w_p1, w_sl, w_lstR, w_tupR, w_newK, w_newT, KL_nx, KL_ct, KL_bk, KL_rt, wipeE, clr_nil, clr_cons, c1_none, c1_d, c1_loc, WC_z, WC_s, lt_a1, lt_a2, lt_a3, st_take2, put_lst, put_dK, kit_bb, kit_ib, kit_ii, kit_sb, kit_si, kit_ss, kit_tb, kit_ti, kit_ts, kit_tt, ty_int, ty_bl, ty_str, ty_tup, add_int, add_str, add_tup, add_lst, sub_int, mul_int', mul_lst, fdiv_int, mod_int, pow_int, neg_int, lt_int', le_int', gt_int', ge_int', is_non, isn_non, is_bl, isn_bl, isNon_int, isNon_str, isNon_tup, isNon_bl, isNon_non, len_str, len_tup, len_lst, len_frl, len_dK, int_int, int_bl, abs_int, sum_lst, any_lst, all_lst, max2_int, min2_int, tuple_lst, tuple_tup, list_lst, list_tup, ix_tup, ix_lst, ix_frl, ix_frt, sl_tup, sl_lst, tg_d, tg_fr, tg_loc, cellV_lst, cellV_dK, cellV_dT, eq_int, ne_int, eq_bl, ne_bl, in_ints_tup, in_ints_lst, atI_0, atI_1, atI_2, atI_3, st_len, st_at, st_at1, st_set, st_set1, st_take, st_take1, st_all, st_lt, List.map_cons, List.map_nil, List.length_cons, List.length_nil, List.length_map, List.getElem?_cons_zero, List.getElem?_cons_succ, List.set_cons_zero, List.set_cons_succ, List.cons_append, List.nil_append, List.append_nil, List.replicate_succ, List.replicate_zero, List.append_assoc, Nat.reduceAdd, Nat.reduceSub, Nat.reduceLT, Nat.zero_add, Nat.add_zero, true_implies, false_implies, and_true, true_and, implies_true, List.length_set, take_set, List.getElem?_set_self, Bool.not_true, decide_true, decide_false, Bool.not_false, decide_eq_true_eq, decide_eq_false_iff_not, Bool.true_eq_false, Bool.false_eq_true, Option.some.injEq, exists_eq_left, exists_eq_left', R.d.injEq, D.int.injEq, D.bl.injEq, if_true, if_false, reduceIte, not_true_eq_false, not_false_eq_true, List.take_zero, List.take_succ_cons, and_self, Option.map_some, Bool.false_xor, Bool.and_self, Bool.true_and, Bool.and_true, Bool.true_xor]
  rw [w_compP (D.int) ns (fun _ => true) D.int]
  · simp only [w_seq, KS_nx, KS_rt, KS_bk, KS_ct, w_next, w_set, w_setM, w_drop, w_ret, w_retN, w_brk, w_cnt, w_if, w_asg, w_parB, w_parC, w_N, w_N0, w_N1, w_NT, KF_nx, KF_rt, w_fun, fin_d, fin_fr, w_fin, WE_some, WT_some, WA_some, WI_some, WS_some, WV_d, WV_fr, WV_loc, WVT_d, WVT_fr, WB_bl, WF_fr, WG_some, WO_some, WO_ite, WO_map, w_var, w_C, w_op, w_un, w_test, w_chain, w_and, w_or, w_not, w_VT, w_ifE, w_A0, w_A1, w_call, w_blt, w_curs0, w_curs1, w_vals0, w_vals1, w_tup, w_lst, w_yes, WL_loc, w_app, w_pop, w_rev, w_put, w_getI, w_isi, w_p0, w_p1, w_sl, w_lstR, w_tupR, w_newK, w_newT, KL_nx, KL_ct, KL_bk, KL_rt, wipeE, clr_nil, clr_cons, c1_none, c1_d, c1_loc, WC_z, WC_s, lt_a1, lt_a2, lt_a3, st_take2, put_lst, put_dK, kit_bb, kit_ib, kit_ii, kit_sb, kit_si, kit_ss, kit_tb, kit_ti, kit_ts, kit_tt, ty_int, ty_bl, ty_str, ty_tup, add_int, add_str, add_tup, add_lst, sub_int, mul_int', mul_lst, fdiv_int, mod_int, pow_int, neg_int, lt_int', le_int', gt_int', ge_int', is_non, isn_non, is_bl, isn_bl, isNon_int, isNon_str, isNon_tup, isNon_bl, isNon_non, len_str, len_tup, len_lst, len_frl, len_dK, int_int, int_bl, abs_int, sum_lst, any_lst, all_lst, max2_int, min2_int, tuple_lst, tuple_tup, list_lst, list_tup, ix_tup, ix_lst, ix_frl, ix_frt, sl_tup, sl_lst, tg_d, tg_fr, tg_loc, cellV_lst, cellV_dK, cellV_dT, eq_int, ne_int, eq_bl, ne_bl, in_ints_tup, in_ints_lst, atI_0, atI_1, atI_2, atI_3, st_len, st_at, st_at1, st_set, st_set1, st_take, st_take1, st_all, st_lt, List.map_cons, List.map_nil, List.length_cons, List.length_nil, List.length_map, List.getElem?_cons_zero, List.getElem?_cons_succ, List.set_cons_zero, List.set_cons_succ, List.cons_append, List.nil_append, List.append_nil, List.replicate_succ, List.replicate_zero, List.append_assoc, Nat.reduceAdd, Nat.reduceSub, Nat.reduceLT, Nat.zero_add, Nat.add_zero, true_implies, false_implies, and_true, true_and, implies_true, List.length_set, take_set, List.getElem?_set_self, Bool.not_true, decide_true, decide_false, Bool.not_false, decide_eq_true_eq, decide_eq_false_iff_not, Bool.true_eq_false, Bool.false_eq_true, Option.some.injEq, exists_eq_left, exists_eq_left', R.d.injEq, D.int.injEq, D.bl.injEq, if_true, if_false, reduceIte, not_true_eq_false, not_false_eq_true, List.take_zero, List.take_succ_cons, and_self, Option.map_some, Bool.false_xor, Bool.and_self, Bool.true_and, Bool.and_true, Bool.true_xor, filter_tt]
    have hc : ∃ cs : List Int, 0 < cs.length ∧ cs.length ≤ 64 ∧ ns.map D.int ++ (List.replicate (if (ns.length : Int) = 0 then (1 : Int) else 0).toNat [D.int 0]).flatten = cs.map D.int := by
      cases ns with
      | nil => exact ⟨[0], by decide, by decide, rfl⟩
      | cons n ns => exact ⟨n :: ns, by simp, by omega, by rw [if_neg (by simp; omega)]; simp⟩
    obtain ⟨cs, h0, h64, hcs⟩ := hc
    refine ⟨fits_small (by decide), by split <;> decide, ?_, fits_small (by decide), ?_⟩
    · have := congrArg List.length hcs
      rw [List.length_append, List.length_map, List.length_map] at this
      rw [this]
      exact fits_small (by omega)
    rw [hcs]
    refine w_for (n := st.length + 2) (fun i : Nat => D.int (i : Int)) (List.range m) (fun done e s => ∃ (rs ds : List Int) (x5 x6 x7 : Option R), rs.length = cs.length ∧ ds.length = done.length ∧
      e = [some (.d (.frl (ns.map D.int))), some (.d (.int m)), some (.d (.lst (cs.map D.int))), some (.loc st.length), some (.loc (st.length + 1)), x5, x6, x7, none, none] ∧ s = st ++ [.lst (rs.map D.int), .lst (ds.map D.int)]) (wi_rng1 ?_) ?_ ?_
    · simp only [w_seq, KS_nx, KS_rt, KS_bk, KS_ct, w_next, w_set, w_setM, w_drop, w_ret, w_retN, w_brk, w_cnt, w_if, w_asg, w_parB, w_parC, w_N, w_N0, w_N1, w_NT, KF_nx, KF_rt, w_fun, fin_d, fin_fr, w_fin, WE_some, WT_some, WA_some, WI_some, WS_some, WV_d, WV_fr, WV_loc, WVT_d, WVT_fr, WB_bl, WF_fr, WG_some, WO_some, WO_ite, WO_map, w_var, w_C, w_op, w_un, w_test, w_chain, w_and, w_or, w_not, w_VT, w_ifE, w_A0, w_A1, w_call, w_blt, w_curs0, w_curs1, w_vals0, w_vals1, w_tup, w_lst, w_yes, WL_loc, w_app, w_pop, w_rev, w_put, w_getI, w_isi, w_p0, w_p1, w_sl, w_lstR, w_tupR, w_newK, w_newT, KL_nx, KL_ct, KL_bk, KL_rt, wipeE, clr_nil, clr_cons, c1_none, c1_d, c1_loc, WC_z, WC_s, lt_a1, lt_a2, lt_a3, st_take2, put_lst, put_dK, kit_bb, kit_ib, kit_ii, kit_sb, kit_si, kit_ss, kit_tb, kit_ti, kit_ts, kit_tt, ty_int, ty_bl, ty_str, ty_tup, add_int, add_str, add_tup, add_lst, sub_int, mul_int', mul_lst, fdiv_int, mod_int, pow_int, neg_int, lt_int', le_int', gt_int', ge_int', is_non, isn_non, is_bl, isn_bl, isNon_int, isNon_str, isNon_tup, isNon_bl, isNon_non, len_str, len_tup, len_lst, len_frl, len_dK, int_int, int_bl, abs_int, sum_lst, any_lst, all_lst, max2_int, min2_int, tuple_lst, tuple_tup, list_lst, list_tup, ix_tup, ix_lst, ix_frl, ix_frt, sl_tup, sl_lst, tg_d, tg_fr, tg_loc, cellV_lst, cellV_dK, cellV_dT, eq_int, ne_int, eq_bl, ne_bl, in_ints_tup, in_ints_lst, atI_0, atI_1, atI_2, atI_3, st_len, st_at, st_at1, st_set, st_set1, st_take, st_take1, st_all, st_lt, List.map_cons, List.map_nil, List.length_cons, List.length_nil, List.length_map, List.getElem?_cons_zero, List.getElem?_cons_succ, List.set_cons_zero, List.set_cons_succ, List.cons_append, List.nil_append, List.append_nil, List.replicate_succ, List.replicate_zero, List.append_assoc, Nat.reduceAdd, Nat.reduceSub, Nat.reduceLT, Nat.zero_add, Nat.add_zero, true_implies, false_implies, and_true, true_and, implies_true, List.length_set, take_set, List.getElem?_set_self, Bool.not_true, decide_true, decide_false, Bool.not_false, decide_eq_true_eq, decide_eq_false_iff_not, Bool.true_eq_false, Bool.false_eq_true, Option.some.injEq, exists_eq_left, exists_eq_left', R.d.injEq, D.int.injEq, D.bl.injEq, if_true, if_false, reduceIte, not_true_eq_false, not_false_eq_true, List.take_zero, List.take_succ_cons, and_self, Option.map_some, Bool.false_xor, Bool.and_self, Bool.true_and, Bool.and_true, Bool.true_xor]
      exact ⟨sm_nat (by omega), by rw [Int.toNat_natCast, rg0], ⟨cs, [], none, none, none, rfl, rfl, rfl, rfl⟩, fun _ _ _ _ => trivial⟩
    · rintro done k rest env s he ⟨rs, ds, x5, x6, x7, hr, hd, rfl, rfl⟩
      obtain ⟨hk1, hk2⟩ := range_at he
      obtain ⟨f0, f1⟩ := fmod_in (a := k) (b := cs.length) (by omega)
      have hn : (cs.length : Int) ≠ 0 := by omega
      obtain ⟨c, e1, _⟩ := atI_some f0 f1
      obtain ⟨r, e2, _⟩ := atI_some (zs := rs) f0 (by rw [hr]; exact f1)
      have e3 := ixN_in (n := rs.length) f0 (by rw [hr]; exact f1)
      simp only [w_seq, KS_nx, KS_rt, KS_bk, KS_ct, w_next, w_set, w_setM, w_drop, w_ret, w_retN, w_brk, w_cnt, w_if, w_asg, w_parB, w_parC, w_N, w_N0, w_N1, w_NT, KF_nx, KF_rt, w_fun, fin_d, fin_fr, w_fin, WE_some, WT_some, WA_some, WI_some, WS_some, WV_d, WV_fr, WV_loc, WVT_d, WVT_fr, WB_bl, WF_fr, WG_some, WO_some, WO_ite, WO_map, w_var, w_C, w_op, w_un, w_test, w_chain, w_and, w_or, w_not, w_VT, w_ifE, w_A0, w_A1, w_call, w_blt, w_curs0, w_curs1, w_vals0, w_vals1, w_tup, w_lst, w_yes, WL_loc, w_app, w_pop, w_rev, w_put, w_getI, w_isi, w_p0, w_p1, w_sl, w_lstR, w_tupR, w_newK, w_newT, KL_nx, KL_ct, KL_bk, KL_rt, wipeE, clr_nil, clr_cons, c1_none, c1_d, c1_loc, WC_z, WC_s, lt_a1, lt_a2, lt_a3, st_take2, put_lst, put_dK, kit_bb, kit_ib, kit_ii, kit_sb, kit_si, kit_ss, kit_tb, kit_ti, kit_ts, kit_tt, ty_int, ty_bl, ty_str, ty_tup, add_int, add_str, add_tup, add_lst, sub_int, mul_int', mul_lst, fdiv_int, mod_int, pow_int, neg_int, lt_int', le_int', gt_int', ge_int', is_non, isn_non, is_bl, isn_bl, isNon_int, isNon_str, isNon_tup, isNon_bl, isNon_non, len_str, len_tup, len_lst, len_frl, len_dK, int_int, int_bl, abs_int, sum_lst, any_lst, all_lst, max2_int, min2_int, tuple_lst, tuple_tup, list_lst, list_tup, ix_tup, ix_lst, ix_frl, ix_frt, sl_tup, sl_lst, tg_d, tg_fr, tg_loc, cellV_lst, cellV_dK, cellV_dT, eq_int, ne_int, eq_bl, ne_bl, in_ints_tup, in_ints_lst, atI_0, atI_1, atI_2, atI_3, st_len, st_at, st_at1, st_set, st_set1, st_take, st_take1, st_all, st_lt, List.map_cons, List.map_nil, List.length_cons, List.length_nil, List.length_map, List.getElem?_cons_zero, List.getElem?_cons_succ, List.set_cons_zero, List.set_cons_succ, List.cons_append, List.nil_append, List.append_nil, List.replicate_succ, List.replicate_zero, List.append_assoc, Nat.reduceAdd, Nat.reduceSub, Nat.reduceLT, Nat.zero_add, Nat.add_zero, true_implies, false_implies, and_true, true_and, implies_true, List.length_set, take_set, List.getElem?_set_self, Bool.not_true, decide_true, decide_false, Bool.not_false, decide_eq_true_eq, decide_eq_false_iff_not, Bool.true_eq_false, Bool.false_eq_true, Option.some.injEq, exists_eq_left, exists_eq_left', R.d.injEq, D.int.injEq, D.bl.injEq, if_true, if_false, reduceIte, not_true_eq_false, not_false_eq_true, List.take_zero, List.take_succ_cons, and_self, Option.map_some, Bool.false_xor, Bool.and_self, Bool.true_and, Bool.and_true, Bool.true_xor, atI_map, e1, e2, e3, hn, pw10_18, dv1000, st_at, st_at1, WC_of st_at, WC_of st_at1, WL_loc]
      have hz : ds.length < sizeLine := lt_size (by omega)
      have hb := fmod_in (a := c * 48271 + (k : Int) * 69621 + 11) (b := 2147483647) (by decide)
      generalize (c * 48271 + (k : Int) * 69621 + 11).fmod 2147483647 = o at hb ⊢
      refine ⟨hn, fun _ => ⟨fun _ => ⟨by decide, hz, rs.set ((k : Int).fmod cs.length).toNat (r.fdiv 1000), ds ++ [r.fmod 1000], _, _, _, by rw [List.length_set]; exact hr, by simp [hd], rfl, ?_⟩, fun _ => ?_⟩, fun _ => ?_⟩
      · rw [List.map_set, List.map_append]; rfl
      all_goals
        refine ⟨mulOk_r (by decide) (by decide), mulOk_r (by decide) (by decide), by decide, mulOk_r (by omega) (by omega), mulOk_l (by decide) (by decide), by decide, hz, rs, ds ++ [(o * o + 3 * o + (k : Int)).fmod 1000003], _, _, _, hr, by simp [hd], rfl, ?_⟩
        rw [List.map_append]; rfl
    · rintro env s ⟨rs, ds, x5, x6, x7, hr, hd, rfl, rfl⟩
      simp only [w_seq, KS_nx, KS_rt, KS_bk, KS_ct, w_next, w_set, w_setM, w_drop, w_ret, w_retN, w_brk, w_cnt, w_if, w_asg, w_parB, w_parC, w_N, w_N0, w_N1, w_NT, KF_nx, KF_rt, w_fun, fin_d, fin_fr, w_fin, WE_some, WT_some, WA_some, WI_some, WS_some, WV_d, WV_fr, WV_loc, WVT_d, WVT_fr, WB_bl, WF_fr, WG_some, WO_some, WO_ite, WO_map, w_var, w_C, w_op, w_un, w_test, w_chain, w_and, w_or, w_not, w_VT, w_ifE, w_A0, w_A1, w_call, w_blt, w_curs0, w_curs1, w_vals0, w_vals1, w_tup, w_lst, w_yes, WL_loc, w_app, w_pop, w_rev, w_put, w_getI, w_isi, w_p0, w_p1, w_sl, w_lstR, w_tupR, w_newK, w_newT, KL_nx, KL_ct, KL_bk, KL_rt, wipeE, clr_nil, clr_cons, c1_none, c1_d, c1_loc, WC_z, WC_s, lt_a1, lt_a2, lt_a3, st_take2, put_lst, put_dK, kit_bb, kit_ib, kit_ii, kit_sb, kit_si, kit_ss, kit_tb, kit_ti, kit_ts, kit_tt, ty_int, ty_bl, ty_str, ty_tup, add_int, add_str, add_tup, add_lst, sub_int, mul_int', mul_lst, fdiv_int, mod_int, pow_int, neg_int, lt_int', le_int', gt_int', ge_int', is_non, isn_non, is_bl, isn_bl, isNon_int, isNon_str, isNon_tup, isNon_bl, isNon_non, len_str, len_tup, len_lst, len_frl, len_dK, int_int, int_bl, abs_int, sum_lst, any_lst, all_lst, max2_int, min2_int, tuple_lst, tuple_tup, list_lst, list_tup, ix_tup, ix_lst, ix_frl, ix_frt, sl_tup, sl_lst, tg_d, tg_fr, tg_loc, cellV_lst, cellV_dK, cellV_dT, eq_int, ne_int, eq_bl, ne_bl, in_ints_tup, in_ints_lst, atI_0, atI_1, atI_2, atI_3, st_len, st_at, st_at1, st_set, st_set1, st_take, st_take1, st_all, st_lt, List.map_cons, List.map_nil, List.length_cons, List.length_nil, List.length_map, List.getElem?_cons_zero, List.getElem?_cons_succ, List.set_cons_zero, List.set_cons_succ, List.cons_append, List.nil_append, List.append_nil, List.replicate_succ, List.replicate_zero, List.append_assoc, Nat.reduceAdd, Nat.reduceSub, Nat.reduceLT, Nat.zero_add, Nat.add_zero, true_implies, false_implies, and_true, true_and, implies_true, List.length_set, take_set, List.getElem?_set_self, Bool.not_true, decide_true, decide_false, Bool.not_false, decide_eq_true_eq, decide_eq_false_iff_not, Bool.true_eq_false, Bool.false_eq_true, Option.some.injEq, exists_eq_left, exists_eq_left', R.d.injEq, D.int.injEq, D.bl.injEq, if_true, if_false, reduceIte, not_true_eq_false, not_false_eq_true, List.take_zero, List.take_succ_cons, and_self, Option.map_some, Bool.false_xor, Bool.and_self, Bool.true_and, Bool.and_true, Bool.true_xor, WC_of st_at1]
      refine ⟨fun h => by omega, fun _ => ⟨ds.reverse, ?_⟩⟩
      rw [List.map_reverse]
  · refine seq_frl.it (by rfl) (fits_small (by omega))
  · intro x hx
    simp only [w_seq, KS_nx, KS_rt, KS_bk, KS_ct, w_next, w_set, w_setM, w_drop, w_ret, w_retN, w_brk, w_cnt, w_if, w_asg, w_parB, w_parC, w_N, w_N0, w_N1, w_NT, KF_nx, KF_rt, w_fun, fin_d, fin_fr, w_fin, WE_some, WT_some, WA_some, WI_some, WS_some, WV_d, WV_fr, WV_loc, WVT_d, WVT_fr, WB_bl, WF_fr, WG_some, WO_some, WO_ite, WO_map, w_var, w_C, w_op, w_un, w_test, w_chain, w_and, w_or, w_not, w_VT, w_ifE, w_A0, w_A1, w_call, w_blt, w_curs0, w_curs1, w_vals0, w_vals1, w_tup, w_lst, w_yes, WL_loc, w_app, w_pop, w_rev, w_put, w_getI, w_isi, w_p0, w_p1, w_sl, w_lstR, w_tupR, w_newK, w_newT, KL_nx, KL_ct, KL_bk, KL_rt, wipeE, clr_nil, clr_cons, c1_none, c1_d, c1_loc, WC_z, WC_s, lt_a1, lt_a2, lt_a3, st_take2, put_lst, put_dK, kit_bb, kit_ib, kit_ii, kit_sb, kit_si, kit_ss, kit_tb, kit_ti, kit_ts, kit_tt, ty_int, ty_bl, ty_str, ty_tup, add_int, add_str, add_tup, add_lst, sub_int, mul_int', mul_lst, fdiv_int, mod_int, pow_int, neg_int, lt_int', le_int', gt_int', ge_int', is_non, isn_non, is_bl, isn_bl, isNon_int, isNon_str, isNon_tup, isNon_bl, isNon_non, len_str, len_tup, len_lst, len_frl, len_dK, int_int, int_bl, abs_int, sum_lst, any_lst, all_lst, max2_int, min2_int, tuple_lst, tuple_tup, list_lst, list_tup, ix_tup, ix_lst, ix_frl, ix_frt, sl_tup, sl_lst, tg_d, tg_fr, tg_loc, cellV_lst, cellV_dK, cellV_dT, eq_int, ne_int, eq_bl, ne_bl, in_ints_tup, in_ints_lst, atI_0, atI_1, atI_2, atI_3, st_len, st_at, st_at1, st_set, st_set1, st_take, st_take1, st_all, st_lt, List.map_cons, List.map_nil, List.length_cons, List.length_nil, List.length_map, List.getElem?_cons_zero, List.getElem?_cons_succ, List.set_cons_zero, List.set_cons_succ, List.cons_append, List.nil_append, List.append_nil, List.replicate_succ, List.replicate_zero, List.append_assoc, Nat.reduceAdd, Nat.reduceSub, Nat.reduceLT, Nat.zero_add, Nat.add_zero, true_implies, false_implies, and_true, true_and, implies_true, List.length_set, take_set, List.getElem?_set_self, Bool.not_true, decide_true, decide_false, Bool.not_false, decide_eq_true_eq, decide_eq_false_iff_not, Bool.true_eq_false, Bool.false_eq_true, Option.some.injEq, exists_eq_left, exists_eq_left', R.d.injEq, D.int.injEq, D.bl.injEq, if_true, if_false, reduceIte, not_true_eq_false, not_false_eq_true, List.take_zero, List.take_succ_cons, and_self, Option.map_some, Bool.false_xor, Bool.and_self, Bool.true_and, Bool.and_true, Bool.true_xor]
theorem cell_ok {ns : List Int} {k : Int} {st : Sto} (hl : ns.length ≤ 63) : ∃ v : Int, (-10000000000000000000000000000 < v ∧ v < 10000000000000000000000000000) ∧ F__law_cell [.d (.frl (ns.map D.int)), .d (.int k)] st = some (.d (.int v), st) := by
  suffices h : WE (F__law_cell [.d (.frl (ns.map D.int)), .d (.int k)] st) (fun r s => (∃ v : Int, (-10000000000000000000000000000 < v ∧ v < 10000000000000000000000000000) ∧ r = .d (.int v)) ∧ s = st) by
    obtain ⟨r, s, e, ⟨ds, hd, rfl⟩, rfl⟩ := h
    exact ⟨ds, hd, e⟩
  unfold F__law_cell
  simp only [w_seq, KS_nx, KS_rt, KS_bk, KS_ct, w_next, w_set, w_setM, w_drop, w_ret, w_retN, w_brk, w_cnt, w_if, w_asg, w_parB, w_parC, w_N, w_N0, w_N1, w_NT, KF_nx, KF_rt, w_fun, fin_d, fin_fr, w_fin, WE_some, WT_some, WA_some, WI_some, WS_some, WV_d, WV_fr, WV_loc, WVT_d, WVT_fr, WB_bl, WF_fr, WG_some, WO_some, WO_ite, WO_map, w_var, w_C, w_op, w_un, w_test, w_chain, w_and, w_or, w_not, w_VT, w_ifE, w_A0, w_A1, w_call, w_blt, w_curs0, w_curs1, w_vals0, w_vals1, w_tup, w_lst, w_yes, WL_loc, w_app, w_pop, w_rev, w_put, w_getI, w_isi, w_p0, w_p1, w_sl, w_lstR, w_tupR, w_newK, w_newT, KL_nx, KL_ct, KL_bk, KL_rt, wipeE, clr_nil, clr_cons, c1_none, c1_d, c1_loc, WC_z, WC_s, lt_a1, lt_a2, lt_a3, st_take2, put_lst, put_dK, kit_bb, kit_ib, kit_ii, kit_sb, kit_si, kit_ss, kit_tb, kit_ti, kit_ts, kit_tt, ty_int, ty_bl, ty_str, ty_tup, add_int, add_str, add_tup, add_lst, sub_int, mul_int', mul_lst, fdiv_int, mod_int, pow_int, neg_int, lt_int', le_int', gt_int', ge_int', is_non, isn_non, is_bl, isn_bl, isNon_int, isNon_str, isNon_tup, isNon_bl, isNon_non, len_str, len_tup, len_lst, len_frl, len_dK, int_int, int_bl, abs_int, sum_lst, any_lst, all_lst, max2_int, min2_int, tuple_lst, tuple_tup, list_lst, list_tup, ix_tup, ix_lst, ix_frl, ix_frt, sl_tup, sl_lst, tg_d, tg_fr, tg_loc, cellV_lst, cellV_dK, cellV_dT, eq_int, ne_int, eq_bl, ne_bl, in_ints_tup, in_ints_lst, atI_0, atI_1, atI_2, atI_3, st_len, st_at, st_at1, st_set, st_set1, st_take, st_take1, st_all, st_lt, List.map_cons, List.map_nil, List.length_cons, List.length_nil, List.length_map, List.getElem?_cons_zero, List.getElem?_cons_succ, List.set_cons_zero, List.set_cons_succ, List.cons_append, List.nil_append, List.append_nil, List.replicate_succ, List.replicate_zero, List.append_assoc, Nat.reduceAdd, Nat.reduceSub, Nat.reduceLT, Nat.zero_add, Nat.add_zero, true_implies, false_implies, and_true, true_and, implies_true, List.length_set, take_set, List.getElem?_set_self, Bool.not_true, decide_true, decide_false, Bool.not_false, decide_eq_true_eq, decide_eq_false_iff_not, Bool.true_eq_false, Bool.false_eq_true, Option.some.injEq, exists_eq_left, exists_eq_left', R.d.injEq, D.int.injEq, D.bl.injEq, if_true, if_false, reduceIte, not_true_eq_false, not_false_eq_true, List.take_zero, List.take_succ_cons, and_self, Option.map_some, Bool.false_xor, Bool.and_self, Bool.true_and, Bool.and_true, Bool.true_xor]
  refine ⟨fun _ => ⟨0, by decide, rfl⟩, fun h0 => ⟨by omega, ?_⟩⟩
  obtain ⟨f0, f1⟩ := fmod_in (a := k) (b := ns.length) (by omega)
  obtain ⟨c, e1, _⟩ := atI_some f0 f1
  simp only [w_seq, KS_nx, KS_rt, KS_bk, KS_ct, w_next, w_set, w_setM, w_drop, w_ret, w_retN, w_brk, w_cnt, w_if, w_asg, w_parB, w_parC, w_N, w_N0, w_N1, w_NT, KF_nx, KF_rt, w_fun, fin_d, fin_fr, w_fin, WE_some, WT_some, WA_some, WI_some, WS_some, WV_d, WV_fr, WV_loc, WVT_d, WVT_fr, WB_bl, WF_fr, WG_some, WO_some, WO_ite, WO_map, w_var, w_C, w_op, w_un, w_test, w_chain, w_and, w_or, w_not, w_VT, w_ifE, w_A0, w_A1, w_call, w_blt, w_curs0, w_curs1, w_vals0, w_vals1, w_tup, w_lst, w_yes, WL_loc, w_app, w_pop, w_rev, w_put, w_getI, w_isi, w_p0, w_p1, w_sl, w_lstR, w_tupR, w_newK, w_newT, KL_nx, KL_ct, KL_bk, KL_rt, wipeE, clr_nil, clr_cons, c1_none, c1_d, c1_loc, WC_z, WC_s, lt_a1, lt_a2, lt_a3, st_take2, put_lst, put_dK, kit_bb, kit_ib, kit_ii, kit_sb, kit_si, kit_ss, kit_tb, kit_ti, kit_ts, kit_tt, ty_int, ty_bl, ty_str, ty_tup, add_int, add_str, add_tup, add_lst, sub_int, mul_int', mul_lst, fdiv_int, mod_int, pow_int, neg_int, lt_int', le_int', gt_int', ge_int', is_non, isn_non, is_bl, isn_bl, isNon_int, isNon_str, isNon_tup, isNon_bl, isNon_non, len_str, len_tup, len_lst, len_frl, len_dK, int_int, int_bl, abs_int, sum_lst, any_lst, all_lst, max2_int, min2_int, tuple_lst, tuple_tup, list_lst, list_tup, ix_tup, ix_lst, ix_frl, ix_frt, sl_tup, sl_lst, tg_d, tg_fr, tg_loc, cellV_lst, cellV_dK, cellV_dT, eq_int, ne_int, eq_bl, ne_bl, in_ints_tup, in_ints_lst, atI_0, atI_1, atI_2, atI_3, st_len, st_at, st_at1, st_set, st_set1, st_take, st_take1, st_all, st_lt, List.map_cons, List.map_nil, List.length_cons, List.length_nil, List.length_map, List.getElem?_cons_zero, List.getElem?_cons_succ, List.set_cons_zero, List.set_cons_succ, List.cons_append, List.nil_append, List.append_nil, List.replicate_succ, List.replicate_zero, List.append_assoc, Nat.reduceAdd, Nat.reduceSub, Nat.reduceLT, Nat.zero_add, Nat.add_zero, true_implies, false_implies, and_true, true_and, implies_true, List.length_set, take_set, List.getElem?_set_self, Bool.not_true, decide_true, decide_false, Bool.not_false, decide_eq_true_eq, decide_eq_false_iff_not, Bool.true_eq_false, Bool.false_eq_true, Option.some.injEq, exists_eq_left, exists_eq_left', R.d.injEq, D.int.injEq, D.bl.injEq, if_true, if_false, reduceIte, not_true_eq_false, not_false_eq_true, List.take_zero, List.take_succ_cons, and_self, Option.map_some, Bool.false_xor, Bool.and_self, Bool.true_and, Bool.and_true, Bool.true_xor, atI_map, e1, pw10_28]
  have e3 : ∃ sg : Int, (sg = 1 ∨ sg = -1) ∧ atI [D.int 1, D.int (-1)] (if c < 0 then 1 else 0) = some (.int sg) := by
    split
    · exact ⟨-1, .inr rfl, rfl⟩
    · exact ⟨1, .inl rfl, rfl⟩
  obtain ⟨sg, hsg, e3⟩ := e3
  have hb := fmod_in (a := if c < 0 then -c else c) (b := (10 : Int) ^ Int.toNat 28) (by decide)
  have e10 : (10 : Int) ^ Int.toNat 28 = 10000000000000000000000000000 := by decide
  rw [e10] at hb ⊢
  generalize (if c < 0 then -c else c).fmod 10000000000000000000000000000 = o at hb ⊢
  simp only [w_seq, KS_nx, KS_rt, KS_bk, KS_ct, w_next, w_set, w_setM, w_drop, w_ret, w_retN, w_brk, w_cnt, w_if, w_asg, w_parB, w_parC, w_N, w_N0, w_N1, w_NT, KF_nx, KF_rt, w_fun, fin_d, fin_fr, w_fin, WE_some, WT_some, WA_some, WI_some, WS_some, WV_d, WV_fr, WV_loc, WVT_d, WVT_fr, WB_bl, WF_fr, WG_some, WO_some, WO_ite, WO_map, w_var, w_C, w_op, w_un, w_test, w_chain, w_and, w_or, w_not, w_VT, w_ifE, w_A0, w_A1, w_call, w_blt, w_curs0, w_curs1, w_vals0, w_vals1, w_tup, w_lst, w_yes, WL_loc, w_app, w_pop, w_rev, w_put, w_getI, w_isi, w_p0, w_p1, w_sl, w_lstR, w_tupR, w_newK, w_newT, KL_nx, KL_ct, KL_bk, KL_rt, wipeE, clr_nil, clr_cons, c1_none, c1_d, c1_loc, WC_z, WC_s, lt_a1, lt_a2, lt_a3, st_take2, put_lst, put_dK, kit_bb, kit_ib, kit_ii, kit_sb, kit_si, kit_ss, kit_tb, kit_ti, kit_ts, kit_tt, ty_int, ty_bl, ty_str, ty_tup, add_int, add_str, add_tup, add_lst, sub_int, mul_int', mul_lst, fdiv_int, mod_int, pow_int, neg_int, lt_int', le_int', gt_int', ge_int', is_non, isn_non, is_bl, isn_bl, isNon_int, isNon_str, isNon_tup, isNon_bl, isNon_non, len_str, len_tup, len_lst, len_frl, len_dK, int_int, int_bl, abs_int, sum_lst, any_lst, all_lst, max2_int, min2_int, tuple_lst, tuple_tup, list_lst, list_tup, ix_tup, ix_lst, ix_frl, ix_frt, sl_tup, sl_lst, tg_d, tg_fr, tg_loc, cellV_lst, cellV_dK, cellV_dT, eq_int, ne_int, eq_bl, ne_bl, in_ints_tup, in_ints_lst, atI_0, atI_1, atI_2, atI_3, st_len, st_at, st_at1, st_set, st_set1, st_take, st_take1, st_all, st_lt, List.map_cons, List.map_nil, List.length_cons, List.length_nil, List.length_map, List.getElem?_cons_zero, List.getElem?_cons_succ, List.set_cons_zero, List.set_cons_succ, List.cons_append, List.nil_append, List.append_nil, List.replicate_succ, List.replicate_zero, List.append_assoc, Nat.reduceAdd, Nat.reduceSub, Nat.reduceLT, Nat.zero_add, Nat.add_zero, true_implies, false_implies, and_true, true_and, implies_true, List.length_set, take_set, List.getElem?_set_self, Bool.not_true, decide_true, decide_false, Bool.not_false, decide_eq_true_eq, decide_eq_false_iff_not, Bool.true_eq_false, Bool.false_eq_true, Option.some.injEq, exists_eq_left, exists_eq_left', R.d.injEq, D.int.injEq, D.bl.injEq, if_true, if_false, reduceIte, not_true_eq_false, not_false_eq_true, List.take_zero, List.take_succ_cons, and_self, Option.map_some, Bool.false_xor, Bool.and_self, Bool.true_and, Bool.and_true, Bool.true_xor, e3]
  refine ⟨by decide, fits_small (by decide), by rcases hsg with rfl | rfl <;> exact mulOk_r (by decide) (by decide), o * sg, ?_, rfl⟩
  rcases hsg with rfl | rfl <;> omega
theorem divisor_eq {n d : Int} {st : Sto} : F_divisor_of [.d (.int n), .d (.int d)] st = some (.d (.int (Int.gcd n d : Nat)), st) := by
  refine of_we ?_
  unfold F_divisor_of
  simp only [w_seq, KS_nx, KS_rt, KS_bk, KS_ct, w_next, w_set, w_setM, w_drop, w_ret, w_retN, w_brk, w_cnt, w_if, w_asg, w_parB, w_parC, w_N, w_N0, w_N1, w_NT, KF_nx, KF_rt, w_fun, fin_d, fin_fr, w_fin, WE_some, WT_some, WA_some, WI_some, WS_some, WV_d, WV_fr, WV_loc, WVT_d, WVT_fr, WB_bl, WF_fr, WG_some, WO_some, WO_ite, WO_map, w_var, w_C, w_op, w_un, w_test, w_chain, w_and, w_or, w_not, w_VT, w_ifE, w_A0, w_A1, w_call, w_blt, w_curs0, w_curs1, w_vals0, w_vals1, w_tup, w_lst, w_yes, WL_loc, w_app, w_pop, w_rev, w_put, w_getI, w_isi, w_p0, w_p1, w_sl, w_lstR, w_tupR, w_newK, w_newT, KL_nx, KL_ct, KL_bk, KL_rt, wipeE, clr_nil, clr_cons, c1_none, c1_d, c1_loc, WC_z, WC_s, lt_a1, lt_a2, lt_a3, st_take2, put_lst, put_dK, kit_bb, kit_ib, kit_ii, kit_sb, kit_si, kit_ss, kit_tb, kit_ti, kit_ts, kit_tt, ty_int, ty_bl, ty_str, ty_tup, add_int, add_str, add_tup, add_lst, sub_int, mul_int', mul_lst, fdiv_int, mod_int, pow_int, neg_int, lt_int', le_int', gt_int', ge_int', is_non, isn_non, is_bl, isn_bl, isNon_int, isNon_str, isNon_tup, isNon_bl, isNon_non, len_str, len_tup, len_lst, len_frl, len_dK, int_int, int_bl, abs_int, sum_lst, any_lst, all_lst, max2_int, min2_int, tuple_lst, tuple_tup, list_lst, list_tup, ix_tup, ix_lst, ix_frl, ix_frt, sl_tup, sl_lst, tg_d, tg_fr, tg_loc, cellV_lst, cellV_dK, cellV_dT, eq_int, ne_int, eq_bl, ne_bl, in_ints_tup, in_ints_lst, atI_0, atI_1, atI_2, atI_3, st_len, st_at, st_at1, st_set, st_set1, st_take, st_take1, st_all, st_lt, List.map_cons, List.map_nil, List.length_cons, List.length_nil, List.length_map, List.getElem?_cons_zero, List.getElem?_cons_succ, List.set_cons_zero, List.set_cons_succ, List.cons_append, List.nil_append, List.append_nil, List.replicate_succ, List.replicate_zero, List.append_assoc, Nat.reduceAdd, Nat.reduceSub, Nat.reduceLT, Nat.zero_add, Nat.add_zero, true_implies, false_implies, and_true, true_and, implies_true, List.length_set, take_set, List.getElem?_set_self, Bool.not_true, decide_true, decide_false, Bool.not_false, decide_eq_true_eq, decide_eq_false_iff_not, Bool.true_eq_false, Bool.false_eq_true, Option.some.injEq, exists_eq_left, exists_eq_left', R.d.injEq, D.int.injEq, D.bl.injEq, if_true, if_false, reduceIte, not_true_eq_false, not_false_eq_true, List.take_zero, List.take_succ_cons, and_self, Option.map_some, Bool.false_xor, Bool.and_self, Bool.true_and, Bool.and_true, Bool.true_xor, abs_nat]
  refine w_while (n := st.length) (fun m env s => s = st ∧ ∃ a b : Nat, env = [some (.d (.int a)), some (.d (.int b))] ∧ Nat.gcd a b = Int.gcd n d ∧ m = b) d.natAbs rfl ⟨rfl, n.natAbs, d.natAbs, rfl, rfl, rfl⟩ ?_
  rintro m env s ⟨rfl, a, b, rfl, hg, rfl⟩
  simp only [w_seq, KS_nx, KS_rt, KS_bk, KS_ct, w_next, w_set, w_setM, w_drop, w_ret, w_retN, w_brk, w_cnt, w_if, w_asg, w_parB, w_parC, w_N, w_N0, w_N1, w_NT, KF_nx, KF_rt, w_fun, fin_d, fin_fr, w_fin, WE_some, WT_some, WA_some, WI_some, WS_some, WV_d, WV_fr, WV_loc, WVT_d, WVT_fr, WB_bl, WF_fr, WG_some, WO_some, WO_ite, WO_map, w_var, w_C, w_op, w_un, w_test, w_chain, w_and, w_or, w_not, w_VT, w_ifE, w_A0, w_A1, w_call, w_blt, w_curs0, w_curs1, w_vals0, w_vals1, w_tup, w_lst, w_yes, WL_loc, w_app, w_pop, w_rev, w_put, w_getI, w_isi, w_p0, w_p1, w_sl, w_lstR, w_tupR, w_newK, w_newT, KL_nx, KL_ct, KL_bk, KL_rt, wipeE, clr_nil, clr_cons, c1_none, c1_d, c1_loc, WC_z, WC_s, lt_a1, lt_a2, lt_a3, st_take2, put_lst, put_dK, kit_bb, kit_ib, kit_ii, kit_sb, kit_si, kit_ss, kit_tb, kit_ti, kit_ts, kit_tt, ty_int, ty_bl, ty_str, ty_tup, add_int, add_str, add_tup, add_lst, sub_int, mul_int', mul_lst, fdiv_int, mod_int, pow_int, neg_int, lt_int', le_int', gt_int', ge_int', is_non, isn_non, is_bl, isn_bl, isNon_int, isNon_str, isNon_tup, isNon_bl, isNon_non, len_str, len_tup, len_lst, len_frl, len_dK, int_int, int_bl, abs_int, sum_lst, any_lst, all_lst, max2_int, min2_int, tuple_lst, tuple_tup, list_lst, list_tup, ix_tup, ix_lst, ix_frl, ix_frt, sl_tup, sl_lst, tg_d, tg_fr, tg_loc, cellV_lst, cellV_dK, cellV_dT, eq_int, ne_int, eq_bl, ne_bl, in_ints_tup, in_ints_lst, atI_0, atI_1, atI_2, atI_3, st_len, st_at, st_at1, st_set, st_set1, st_take, st_take1, st_all, st_lt, List.map_cons, List.map_nil, List.length_cons, List.length_nil, List.length_map, List.getElem?_cons_zero, List.getElem?_cons_succ, List.set_cons_zero, List.set_cons_succ, List.cons_append, List.nil_append, List.append_nil, List.replicate_succ, List.replicate_zero, List.append_assoc, Nat.reduceAdd, Nat.reduceSub, Nat.reduceLT, Nat.zero_add, Nat.add_zero, true_implies, false_implies, and_true, true_and, implies_true, List.length_set, take_set, List.getElem?_set_self, Bool.not_true, decide_true, decide_false, Bool.not_false, decide_eq_true_eq, decide_eq_false_iff_not, Bool.true_eq_false, Bool.false_eq_true, Option.some.injEq, exists_eq_left, exists_eq_left', R.d.injEq, D.int.injEq, D.bl.injEq, if_true, if_false, reduceIte, not_true_eq_false, not_false_eq_true, List.take_zero, List.take_succ_cons, and_self, Option.map_some, Bool.false_xor, Bool.and_self, Bool.true_and, Bool.and_true, Bool.true_xor]
  refine ⟨fun h => ?_, fun h => ?_⟩
  · have hb : 0 < m := by omega
    refine ⟨by omega, ?_⟩
    rw [fmod_nat]
    refine ⟨a % m, Nat.mod_lt _ hb, _, _, rfl, ?_, rfl⟩
    rw [← hg, Nat.gcd_comm a m, Nat.gcd_rec m a, Nat.gcd_comm]
  · have : m = 0 := by omega
    subst this
    rw [Nat.gcd_zero_right] at hg
    rw [hg]
theorem fraction_eq {n d : Int} {st : Sto} {k : Nat} (h : d ≠ 0) (hd : d.natAbs < 2 ^ k) (hk : k ≤ 9000) : F_fraction [.d (.int n), .d (.int d)] st = some (.d (encQ (Rat.divInt n d)), st) := by
  refine of_we ?_
  unfold F_fraction
  have hg : ((Int.gcd n d : Nat) : Int) ≠ 0 := by have := gcd_pos (n := n) h; omega
  have o1 := divOk_sz (gcd_sz (n := n) h hd) hk hg
  have o2 : divOk (-((Int.gcd n d : Nat) : Int)) := divOk_sz (k := k) (by rw [Int.natAbs_neg]; exact gcd_sz h hd) hk (by omega)
  simp only [w_seq, KS_nx, KS_rt, KS_bk, KS_ct, w_next, w_set, w_setM, w_drop, w_ret, w_retN, w_brk, w_cnt, w_if, w_asg, w_parB, w_parC, w_N, w_N0, w_N1, w_NT, KF_nx, KF_rt, w_fun, fin_d, fin_fr, w_fin, WE_some, WT_some, WA_some, WI_some, WS_some, WV_d, WV_fr, WV_loc, WVT_d, WVT_fr, WB_bl, WF_fr, WG_some, WO_some, WO_ite, WO_map, w_var, w_C, w_op, w_un, w_test, w_chain, w_and, w_or, w_not, w_VT, w_ifE, w_A0, w_A1, w_call, w_blt, w_curs0, w_curs1, w_vals0, w_vals1, w_tup, w_lst, w_yes, WL_loc, w_app, w_pop, w_rev, w_put, w_getI, w_isi, w_p0, w_p1, w_sl, w_lstR, w_tupR, w_newK, w_newT, KL_nx, KL_ct, KL_bk, KL_rt, wipeE, clr_nil, clr_cons, c1_none, c1_d, c1_loc, WC_z, WC_s, lt_a1, lt_a2, lt_a3, st_take2, put_lst, put_dK, kit_bb, kit_ib, kit_ii, kit_sb, kit_si, kit_ss, kit_tb, kit_ti, kit_ts, kit_tt, ty_int, ty_bl, ty_str, ty_tup, add_int, add_str, add_tup, add_lst, sub_int, mul_int', mul_lst, fdiv_int, mod_int, pow_int, neg_int, lt_int', le_int', gt_int', ge_int', is_non, isn_non, is_bl, isn_bl, isNon_int, isNon_str, isNon_tup, isNon_bl, isNon_non, len_str, len_tup, len_lst, len_frl, len_dK, int_int, int_bl, abs_int, sum_lst, any_lst, all_lst, max2_int, min2_int, tuple_lst, tuple_tup, list_lst, list_tup, ix_tup, ix_lst, ix_frl, ix_frt, sl_tup, sl_lst, tg_d, tg_fr, tg_loc, cellV_lst, cellV_dK, cellV_dT, eq_int, ne_int, eq_bl, ne_bl, in_ints_tup, in_ints_lst, atI_0, atI_1, atI_2, atI_3, st_len, st_at, st_at1, st_set, st_set1, st_take, st_take1, st_all, st_lt, List.map_cons, List.map_nil, List.length_cons, List.length_nil, List.length_map, List.getElem?_cons_zero, List.getElem?_cons_succ, List.set_cons_zero, List.set_cons_succ, List.cons_append, List.nil_append, List.append_nil, List.replicate_succ, List.replicate_zero, List.append_assoc, Nat.reduceAdd, Nat.reduceSub, Nat.reduceLT, Nat.zero_add, Nat.add_zero, true_implies, false_implies, and_true, true_and, implies_true, List.length_set, take_set, List.getElem?_set_self, Bool.not_true, decide_true, decide_false, Bool.not_false, decide_eq_true_eq, decide_eq_false_iff_not, Bool.true_eq_false, Bool.false_eq_true, Option.some.injEq, exists_eq_left, exists_eq_left', R.d.injEq, D.int.injEq, D.bl.injEq, if_true, if_false, reduceIte, not_true_eq_false, not_false_eq_true, List.take_zero, List.take_succ_cons, and_self, Option.map_some, Bool.false_xor, Bool.and_self, Bool.true_and, Bool.and_true, Bool.true_xor, divisor_eq, o1, o2]
  refine ⟨fun h1 => ⟨fits_small (by decide), ?_⟩, fun h1 => ⟨fits_small (by decide), ?_⟩⟩
  · rw [encQ_of (frac_neg h1).1 (frac_neg h1).2]
  · rw [encQ_of (frac_pos (show 0 < d by omega)).1 (frac_pos (show 0 < d by omega)).2]
theorem whole_eq {n : Int} {st : Sto} : F_fraction [.d (.int n), .d (.int 1)] st = some (.d (encQ (n : Rat)), st) := by
  rw [fraction_eq (k := 1) (by decide) (by decide) (by decide), whole_div]
section
variable {a b : Rat} {st : Sto} (ha : Sz 2000 a) (hb : Sz 2000 b)
include ha hb
theorem nd_ok : mulOk a.num b.den ∧ mulOk b.num a.den ∧ mulOk a.den b.den ∧ mulOk a.num b.num ∧ mulOk a.den b.num :=
  ⟨mulOk_sz ha.1 hb.2 (by decide), mulOk_sz hb.1 ha.2 (by decide), mulOk_sz ha.2 hb.2 (by decide), mulOk_sz ha.1 hb.1 (by decide), mulOk_sz ha.2 hb.1 (by decide)⟩
theorem dd_sz : ((a.den : Int) * b.den).natAbs < 2 ^ 4000 ∧ (a.den : Int) * b.den ≠ 0 := ⟨imul_sz (k := 2000) (l := 2000) ha.2 hb.2, Int.ne_of_gt (Int.mul_pos (den_pos' a) (den_pos' b))⟩
theorem plus_eq : F_plus_of [.d (encQ a), .d (encQ b)] st = some (.d (encQ (a + b)), st) := by
  refine of_we ?_
  obtain ⟨m1, m2, m3, m4, m5⟩ := nd_ok ha hb
  obtain ⟨d1, d2⟩ := dd_sz ha hb
  unfold F_plus_of
  simp only [w_seq, KS_nx, KS_rt, KS_bk, KS_ct, w_next, w_set, w_setM, w_drop, w_ret, w_retN, w_brk, w_cnt, w_if, w_asg, w_parB, w_parC, w_N, w_N0, w_N1, w_NT, KF_nx, KF_rt, w_fun, fin_d, fin_fr, w_fin, WE_some, WT_some, WA_some, WI_some, WS_some, WV_d, WV_fr, WV_loc, WVT_d, WVT_fr, WB_bl, WF_fr, WG_some, WO_some, WO_ite, WO_map, w_var, w_C, w_op, w_un, w_test, w_chain, w_and, w_or, w_not, w_VT, w_ifE, w_A0, w_A1, w_call, w_blt, w_curs0, w_curs1, w_vals0, w_vals1, w_tup, w_lst, w_yes, WL_loc, w_app, w_pop, w_rev, w_put, w_getI, w_isi, w_p0, w_p1, w_sl, w_lstR, w_tupR, w_newK, w_newT, KL_nx, KL_ct, KL_bk, KL_rt, wipeE, clr_nil, clr_cons, c1_none, c1_d, c1_loc, WC_z, WC_s, lt_a1, lt_a2, lt_a3, st_take2, put_lst, put_dK, kit_bb, kit_ib, kit_ii, kit_sb, kit_si, kit_ss, kit_tb, kit_ti, kit_ts, kit_tt, ty_int, ty_bl, ty_str, ty_tup, add_int, add_str, add_tup, add_lst, sub_int, mul_int', mul_lst, fdiv_int, mod_int, pow_int, neg_int, lt_int', le_int', gt_int', ge_int', is_non, isn_non, is_bl, isn_bl, isNon_int, isNon_str, isNon_tup, isNon_bl, isNon_non, len_str, len_tup, len_lst, len_frl, len_dK, int_int, int_bl, abs_int, sum_lst, any_lst, all_lst, max2_int, min2_int, tuple_lst, tuple_tup, list_lst, list_tup, ix_tup, ix_lst, ix_frl, ix_frt, sl_tup, sl_lst, tg_d, tg_fr, tg_loc, cellV_lst, cellV_dK, cellV_dT, eq_int, ne_int, eq_bl, ne_bl, in_ints_tup, in_ints_lst, atI_0, atI_1, atI_2, atI_3, st_len, st_at, st_at1, st_set, st_set1, st_take, st_take1, st_all, st_lt, List.map_cons, List.map_nil, List.length_cons, List.length_nil, List.length_map, List.getElem?_cons_zero, List.getElem?_cons_succ, List.set_cons_zero, List.set_cons_succ, List.cons_append, List.nil_append, List.append_nil, List.replicate_succ, List.replicate_zero, List.append_assoc, Nat.reduceAdd, Nat.reduceSub, Nat.reduceLT, Nat.zero_add, Nat.add_zero, true_implies, false_implies, and_true, true_and, implies_true, List.length_set, take_set, List.getElem?_set_self, Bool.not_true, decide_true, decide_false, Bool.not_false, decide_eq_true_eq, decide_eq_false_iff_not, Bool.true_eq_false, Bool.false_eq_true, Option.some.injEq, exists_eq_left, exists_eq_left', R.d.injEq, D.int.injEq, D.bl.injEq, if_true, if_false, reduceIte, not_true_eq_false, not_false_eq_true, List.take_zero, List.take_succ_cons, and_self, Option.map_some, Bool.false_xor, Bool.and_self, Bool.true_and, Bool.and_true, Bool.true_xor, ix_Q0, ix_Q1, m1, m2, m3, fraction_eq d2 d1 (by decide), add_div]
theorem minus_eq : F_minus_of [.d (encQ a), .d (encQ b)] st = some (.d (encQ (a - b)), st) := by
  refine of_we ?_
  obtain ⟨m1, m2, m3, m4, m5⟩ := nd_ok ha hb
  obtain ⟨d1, d2⟩ := dd_sz ha hb
  unfold F_minus_of
  simp only [w_seq, KS_nx, KS_rt, KS_bk, KS_ct, w_next, w_set, w_setM, w_drop, w_ret, w_retN, w_brk, w_cnt, w_if, w_asg, w_parB, w_parC, w_N, w_N0, w_N1, w_NT, KF_nx, KF_rt, w_fun, fin_d, fin_fr, w_fin, WE_some, WT_some, WA_some, WI_some, WS_some, WV_d, WV_fr, WV_loc, WVT_d, WVT_fr, WB_bl, WF_fr, WG_some, WO_some, WO_ite, WO_map, w_var, w_C, w_op, w_un, w_test, w_chain, w_and, w_or, w_not, w_VT, w_ifE, w_A0, w_A1, w_call, w_blt, w_curs0, w_curs1, w_vals0, w_vals1, w_tup, w_lst, w_yes, WL_loc, w_app, w_pop, w_rev, w_put, w_getI, w_isi, w_p0, w_p1, w_sl, w_lstR, w_tupR, w_newK, w_newT, KL_nx, KL_ct, KL_bk, KL_rt, wipeE, clr_nil, clr_cons, c1_none, c1_d, c1_loc, WC_z, WC_s, lt_a1, lt_a2, lt_a3, st_take2, put_lst, put_dK, kit_bb, kit_ib, kit_ii, kit_sb, kit_si, kit_ss, kit_tb, kit_ti, kit_ts, kit_tt, ty_int, ty_bl, ty_str, ty_tup, add_int, add_str, add_tup, add_lst, sub_int, mul_int', mul_lst, fdiv_int, mod_int, pow_int, neg_int, lt_int', le_int', gt_int', ge_int', is_non, isn_non, is_bl, isn_bl, isNon_int, isNon_str, isNon_tup, isNon_bl, isNon_non, len_str, len_tup, len_lst, len_frl, len_dK, int_int, int_bl, abs_int, sum_lst, any_lst, all_lst, max2_int, min2_int, tuple_lst, tuple_tup, list_lst, list_tup, ix_tup, ix_lst, ix_frl, ix_frt, sl_tup, sl_lst, tg_d, tg_fr, tg_loc, cellV_lst, cellV_dK, cellV_dT, eq_int, ne_int, eq_bl, ne_bl, in_ints_tup, in_ints_lst, atI_0, atI_1, atI_2, atI_3, st_len, st_at, st_at1, st_set, st_set1, st_take, st_take1, st_all, st_lt, List.map_cons, List.map_nil, List.length_cons, List.length_nil, List.length_map, List.getElem?_cons_zero, List.getElem?_cons_succ, List.set_cons_zero, List.set_cons_succ, List.cons_append, List.nil_append, List.append_nil, List.replicate_succ, List.replicate_zero, List.append_assoc, Nat.reduceAdd, Nat.reduceSub, Nat.reduceLT, Nat.zero_add, Nat.add_zero, true_implies, false_implies, and_true, true_and, implies_true, List.length_set, take_set, List.getElem?_set_self, Bool.not_true, decide_true, decide_false, Bool.not_false, decide_eq_true_eq, decide_eq_false_iff_not, Bool.true_eq_false, Bool.false_eq_true, Option.some.injEq, exists_eq_left, exists_eq_left', R.d.injEq, D.int.injEq, D.bl.injEq, if_true, if_false, reduceIte, not_true_eq_false, not_false_eq_true, List.take_zero, List.take_succ_cons, and_self, Option.map_some, Bool.false_xor, Bool.and_self, Bool.true_and, Bool.and_true, Bool.true_xor, ix_Q0, ix_Q1, m1, m2, m3, fraction_eq d2 d1 (by decide), sub_div]
theorem times_eq : F_times_of [.d (encQ a), .d (encQ b)] st = some (.d (encQ (a * b)), st) := by
  refine of_we ?_
  obtain ⟨m1, m2, m3, m4, m5⟩ := nd_ok ha hb
  obtain ⟨d1, d2⟩ := dd_sz ha hb
  unfold F_times_of
  simp only [w_seq, KS_nx, KS_rt, KS_bk, KS_ct, w_next, w_set, w_setM, w_drop, w_ret, w_retN, w_brk, w_cnt, w_if, w_asg, w_parB, w_parC, w_N, w_N0, w_N1, w_NT, KF_nx, KF_rt, w_fun, fin_d, fin_fr, w_fin, WE_some, WT_some, WA_some, WI_some, WS_some, WV_d, WV_fr, WV_loc, WVT_d, WVT_fr, WB_bl, WF_fr, WG_some, WO_some, WO_ite, WO_map, w_var, w_C, w_op, w_un, w_test, w_chain, w_and, w_or, w_not, w_VT, w_ifE, w_A0, w_A1, w_call, w_blt, w_curs0, w_curs1, w_vals0, w_vals1, w_tup, w_lst, w_yes, WL_loc, w_app, w_pop, w_rev, w_put, w_getI, w_isi, w_p0, w_p1, w_sl, w_lstR, w_tupR, w_newK, w_newT, KL_nx, KL_ct, KL_bk, KL_rt, wipeE, clr_nil, clr_cons, c1_none, c1_d, c1_loc, WC_z, WC_s, lt_a1, lt_a2, lt_a3, st_take2, put_lst, put_dK, kit_bb, kit_ib, kit_ii, kit_sb, kit_si, kit_ss, kit_tb, kit_ti, kit_ts, kit_tt, ty_int, ty_bl, ty_str, ty_tup, add_int, add_str, add_tup, add_lst, sub_int, mul_int', mul_lst, fdiv_int, mod_int, pow_int, neg_int, lt_int', le_int', gt_int', ge_int', is_non, isn_non, is_bl, isn_bl, isNon_int, isNon_str, isNon_tup, isNon_bl, isNon_non, len_str, len_tup, len_lst, len_frl, len_dK, int_int, int_bl, abs_int, sum_lst, any_lst, all_lst, max2_int, min2_int, tuple_lst, tuple_tup, list_lst, list_tup, ix_tup, ix_lst, ix_frl, ix_frt, sl_tup, sl_lst, tg_d, tg_fr, tg_loc, cellV_lst, cellV_dK, cellV_dT, eq_int, ne_int, eq_bl, ne_bl, in_ints_tup, in_ints_lst, atI_0, atI_1, atI_2, atI_3, st_len, st_at, st_at1, st_set, st_set1, st_take, st_take1, st_all, st_lt, List.map_cons, List.map_nil, List.length_cons, List.length_nil, List.length_map, List.getElem?_cons_zero, List.getElem?_cons_succ, List.set_cons_zero, List.set_cons_succ, List.cons_append, List.nil_append, List.append_nil, List.replicate_succ, List.replicate_zero, List.append_assoc, Nat.reduceAdd, Nat.reduceSub, Nat.reduceLT, Nat.zero_add, Nat.add_zero, true_implies, false_implies, and_true, true_and, implies_true, List.length_set, take_set, List.getElem?_set_self, Bool.not_true, decide_true, decide_false, Bool.not_false, decide_eq_true_eq, decide_eq_false_iff_not, Bool.true_eq_false, Bool.false_eq_true, Option.some.injEq, exists_eq_left, exists_eq_left', R.d.injEq, D.int.injEq, D.bl.injEq, if_true, if_false, reduceIte, not_true_eq_false, not_false_eq_true, List.take_zero, List.take_succ_cons, and_self, Option.map_some, Bool.false_xor, Bool.and_self, Bool.true_and, Bool.and_true, Bool.true_xor, ix_Q0, ix_Q1, m4, m3, fraction_eq d2 d1 (by decide), mul_div]
theorem over_eq (h0 : b ≠ 0) : F_divided_by [.d (encQ a), .d (encQ b)] st = some (.d (encQ (a / b)), st) := by
  refine of_we ?_
  obtain ⟨m1, m2, m3, m4, m5⟩ := nd_ok ha hb
  have d1 : ((a.den : Int) * b.num).natAbs < 2 ^ 4000 := imul_sz (k := 2000) (l := 2000) ha.2 hb.1
  have d2 : (a.den : Int) * b.num ≠ 0 := Int.mul_ne_zero (Int.ne_of_gt (den_pos' a)) fun e => h0 (Rat.num_eq_zero.mp e)
  unfold F_divided_by
  simp only [w_seq, KS_nx, KS_rt, KS_bk, KS_ct, w_next, w_set, w_setM, w_drop, w_ret, w_retN, w_brk, w_cnt, w_if, w_asg, w_parB, w_parC, w_N, w_N0, w_N1, w_NT, KF_nx, KF_rt, w_fun, fin_d, fin_fr, w_fin, WE_some, WT_some, WA_some, WI_some, WS_some, WV_d, WV_fr, WV_loc, WVT_d, WVT_fr, WB_bl, WF_fr, WG_some, WO_some, WO_ite, WO_map, w_var, w_C, w_op, w_un, w_test, w_chain, w_and, w_or, w_not, w_VT, w_ifE, w_A0, w_A1, w_call, w_blt, w_curs0, w_curs1, w_vals0, w_vals1, w_tup, w_lst, w_yes, WL_loc, w_app, w_pop, w_rev, w_put, w_getI, w_isi, w_p0, w_p1, w_sl, w_lstR, w_tupR, w_newK, w_newT, KL_nx, KL_ct, KL_bk, KL_rt, wipeE, clr_nil, clr_cons, c1_none, c1_d, c1_loc, WC_z, WC_s, lt_a1, lt_a2, lt_a3, st_take2, put_lst, put_dK, kit_bb, kit_ib, kit_ii, kit_sb, kit_si, kit_ss, kit_tb, kit_ti, kit_ts, kit_tt, ty_int, ty_bl, ty_str, ty_tup, add_int, add_str, add_tup, add_lst, sub_int, mul_int', mul_lst, fdiv_int, mod_int, pow_int, neg_int, lt_int', le_int', gt_int', ge_int', is_non, isn_non, is_bl, isn_bl, isNon_int, isNon_str, isNon_tup, isNon_bl, isNon_non, len_str, len_tup, len_lst, len_frl, len_dK, int_int, int_bl, abs_int, sum_lst, any_lst, all_lst, max2_int, min2_int, tuple_lst, tuple_tup, list_lst, list_tup, ix_tup, ix_lst, ix_frl, ix_frt, sl_tup, sl_lst, tg_d, tg_fr, tg_loc, cellV_lst, cellV_dK, cellV_dT, eq_int, ne_int, eq_bl, ne_bl, in_ints_tup, in_ints_lst, atI_0, atI_1, atI_2, atI_3, st_len, st_at, st_at1, st_set, st_set1, st_take, st_take1, st_all, st_lt, List.map_cons, List.map_nil, List.length_cons, List.length_nil, List.length_map, List.getElem?_cons_zero, List.getElem?_cons_succ, List.set_cons_zero, List.set_cons_succ, List.cons_append, List.nil_append, List.append_nil, List.replicate_succ, List.replicate_zero, List.append_assoc, Nat.reduceAdd, Nat.reduceSub, Nat.reduceLT, Nat.zero_add, Nat.add_zero, true_implies, false_implies, and_true, true_and, implies_true, List.length_set, take_set, List.getElem?_set_self, Bool.not_true, decide_true, decide_false, Bool.not_false, decide_eq_true_eq, decide_eq_false_iff_not, Bool.true_eq_false, Bool.false_eq_true, Option.some.injEq, exists_eq_left, exists_eq_left', R.d.injEq, D.int.injEq, D.bl.injEq, if_true, if_false, reduceIte, not_true_eq_false, not_false_eq_true, List.take_zero, List.take_succ_cons, and_self, Option.map_some, Bool.false_xor, Bool.and_self, Bool.true_and, Bool.and_true, Bool.true_xor, ix_Q0, ix_Q1, m1, m5, fraction_eq d2 d1 (by decide), div_div]
end
theorem ldivisor_eq {n d : Int} {st : Sto} {k : Nat} (hn : n.natAbs < 2 ^ k) (hd : d.natAbs < 2 ^ k) (hk : k ≤ 9000) : F__law_divisor [.d (.int n), .d (.int d)] st = some (.d (.int (Int.gcd n d : Nat)), st) := by
  refine of_we ?_
  unfold F__law_divisor
  simp only [w_seq, KS_nx, KS_rt, KS_bk, KS_ct, w_next, w_set, w_setM, w_drop, w_ret, w_retN, w_brk, w_cnt, w_if, w_asg, w_parB, w_parC, w_N, w_N0, w_N1, w_NT, KF_nx, KF_rt, w_fun, fin_d, fin_fr, w_fin, WE_some, WT_some, WA_some, WI_some, WS_some, WV_d, WV_fr, WV_loc, WVT_d, WVT_fr, WB_bl, WF_fr, WG_some, WO_some, WO_ite, WO_map, w_var, w_C, w_op, w_un, w_test, w_chain, w_and, w_or, w_not, w_VT, w_ifE, w_A0, w_A1, w_call, w_blt, w_curs0, w_curs1, w_vals0, w_vals1, w_tup, w_lst, w_yes, WL_loc, w_app, w_pop, w_rev, w_put, w_getI, w_isi, w_p0, w_p1, w_sl, w_lstR, w_tupR, w_newK, w_newT, KL_nx, KL_ct, KL_bk, KL_rt, wipeE, clr_nil, clr_cons, c1_none, c1_d, c1_loc, WC_z, WC_s, lt_a1, lt_a2, lt_a3, st_take2, put_lst, put_dK, kit_bb, kit_ib, kit_ii, kit_sb, kit_si, kit_ss, kit_tb, kit_ti, kit_ts, kit_tt, ty_int, ty_bl, ty_str, ty_tup, add_int, add_str, add_tup, add_lst, sub_int, mul_int', mul_lst, fdiv_int, mod_int, pow_int, neg_int, lt_int', le_int', gt_int', ge_int', is_non, isn_non, is_bl, isn_bl, isNon_int, isNon_str, isNon_tup, isNon_bl, isNon_non, len_str, len_tup, len_lst, len_frl, len_dK, int_int, int_bl, abs_int, sum_lst, any_lst, all_lst, max2_int, min2_int, tuple_lst, tuple_tup, list_lst, list_tup, ix_tup, ix_lst, ix_frl, ix_frt, sl_tup, sl_lst, tg_d, tg_fr, tg_loc, cellV_lst, cellV_dK, cellV_dT, eq_int, ne_int, eq_bl, ne_bl, in_ints_tup, in_ints_lst, atI_0, atI_1, atI_2, atI_3, st_len, st_at, st_at1, st_set, st_set1, st_take, st_take1, st_all, st_lt, List.map_cons, List.map_nil, List.length_cons, List.length_nil, List.length_map, List.getElem?_cons_zero, List.getElem?_cons_succ, List.set_cons_zero, List.set_cons_succ, List.cons_append, List.nil_append, List.append_nil, List.replicate_succ, List.replicate_zero, List.append_assoc, Nat.reduceAdd, Nat.reduceSub, Nat.reduceLT, Nat.zero_add, Nat.add_zero, true_implies, false_implies, and_true, true_and, implies_true, List.length_set, take_set, List.getElem?_set_self, Bool.not_true, decide_true, decide_false, Bool.not_false, decide_eq_true_eq, decide_eq_false_iff_not, Bool.true_eq_false, Bool.false_eq_true, Option.some.injEq, exists_eq_left, exists_eq_left', R.d.injEq, D.int.injEq, D.bl.injEq, if_true, if_false, reduceIte, not_true_eq_false, not_false_eq_true, List.take_zero, List.take_succ_cons, and_self, Option.map_some, Bool.false_xor, Bool.and_self, Bool.true_and, Bool.and_true, Bool.true_xor, abs_nat, bits_int]
  have b1 : Builtin.Int.intBits ((n.natAbs : Nat) : Int) ≤ k := bits_le hn
  have b2 : Builtin.Int.intBits ((d.natAbs : Nat) : Int) ≤ k := bits_le hd
  have b3 : d.natAbs < 2 ^ Builtin.Int.intBits ((d.natAbs : Nat) : Int) := bits_lt ((d.natAbs : Nat) : Int)
  obtain ⟨x, hx⟩ : ∃ x, Builtin.Int.intBits ((n.natAbs : Nat) : Int) = x := ⟨_, rfl⟩
  obtain ⟨y, hy⟩ : ∃ y, Builtin.Int.intBits ((d.natAbs : Nat) : Int) = y := ⟨_, rfl⟩
  rw [hx] at b1
  rw [hy] at b2 b3
  refine w_for (n := st.length) (fun i : Nat => D.int (i : Int)) (List.range (2 * (x + y + 1))) (fun done env s => s = st ∧ ∃ a b : Nat, ∃ z, env = [some (.d (.int a)), some (.d (.int b)), z] ∧ Eu (Int.gcd n d) d.natAbs done.length a b) (wi_rng1 ?_) ?_ ?_
  · simp only [w_seq, KS_nx, KS_rt, KS_bk, KS_ct, w_next, w_set, w_setM, w_drop, w_ret, w_retN, w_brk, w_cnt, w_if, w_asg, w_parB, w_parC, w_N, w_N0, w_N1, w_NT, KF_nx, KF_rt, w_fun, fin_d, fin_fr, w_fin, WE_some, WT_some, WA_some, WI_some, WS_some, WV_d, WV_fr, WV_loc, WVT_d, WVT_fr, WB_bl, WF_fr, WG_some, WO_some, WO_ite, WO_map, w_var, w_C, w_op, w_un, w_test, w_chain, w_and, w_or, w_not, w_VT, w_ifE, w_A0, w_A1, w_call, w_blt, w_curs0, w_curs1, w_vals0, w_vals1, w_tup, w_lst, w_yes, WL_loc, w_app, w_pop, w_rev, w_put, w_getI, w_isi, w_p0, w_p1, w_sl, w_lstR, w_tupR, w_newK, w_newT, KL_nx, KL_ct, KL_bk, KL_rt, wipeE, clr_nil, clr_cons, c1_none, c1_d, c1_loc, WC_z, WC_s, lt_a1, lt_a2, lt_a3, st_take2, put_lst, put_dK, kit_bb, kit_ib, kit_ii, kit_sb, kit_si, kit_ss, kit_tb, kit_ti, kit_ts, kit_tt, ty_int, ty_bl, ty_str, ty_tup, add_int, add_str, add_tup, add_lst, sub_int, mul_int', mul_lst, fdiv_int, mod_int, pow_int, neg_int, lt_int', le_int', gt_int', ge_int', is_non, isn_non, is_bl, isn_bl, isNon_int, isNon_str, isNon_tup, isNon_bl, isNon_non, len_str, len_tup, len_lst, len_frl, len_dK, int_int, int_bl, abs_int, sum_lst, any_lst, all_lst, max2_int, min2_int, tuple_lst, tuple_tup, list_lst, list_tup, ix_tup, ix_lst, ix_frl, ix_frt, sl_tup, sl_lst, tg_d, tg_fr, tg_loc, cellV_lst, cellV_dK, cellV_dT, eq_int, ne_int, eq_bl, ne_bl, in_ints_tup, in_ints_lst, atI_0, atI_1, atI_2, atI_3, st_len, st_at, st_at1, st_set, st_set1, st_take, st_take1, st_all, st_lt, List.map_cons, List.map_nil, List.length_cons, List.length_nil, List.length_map, List.getElem?_cons_zero, List.getElem?_cons_succ, List.set_cons_zero, List.set_cons_succ, List.cons_append, List.nil_append, List.append_nil, List.replicate_succ, List.replicate_zero, List.append_assoc, Nat.reduceAdd, Nat.reduceSub, Nat.reduceLT, Nat.zero_add, Nat.add_zero, true_implies, false_implies, and_true, true_and, implies_true, List.length_set, take_set, List.getElem?_set_self, Bool.not_true, decide_true, decide_false, Bool.not_false, decide_eq_true_eq, decide_eq_false_iff_not, Bool.true_eq_false, Bool.false_eq_true, Option.some.injEq, exists_eq_left, exists_eq_left', R.d.injEq, D.int.injEq, D.bl.injEq, if_true, if_false, reduceIte, not_true_eq_false, not_false_eq_true, List.take_zero, List.take_succ_cons, and_self, Option.map_some, Bool.false_xor, Bool.and_self, Bool.true_and, Bool.and_true, Bool.true_xor, bits_int, hx, hy]
    refine ⟨mulOk_l (by decide) (by decide), mulOk_l (by decide) (by decide), sm_int (by omega) (by omega), ?_, ⟨_, _, _, rfl, Eu.start _ _⟩, fun _ _ _ _ => trivial⟩
    rw [show (2 * (x : Int) + 2 * (y : Int) + 2).toNat = 2 * (x + y + 1) by omega, rg0]
  · rintro done i rest env s he ⟨rfl, a, b, z, rfl, hE⟩
    simp only [w_seq, KS_nx, KS_rt, KS_bk, KS_ct, w_next, w_set, w_setM, w_drop, w_ret, w_retN, w_brk, w_cnt, w_if, w_asg, w_parB, w_parC, w_N, w_N0, w_N1, w_NT, KF_nx, KF_rt, w_fun, fin_d, fin_fr, w_fin, WE_some, WT_some, WA_some, WI_some, WS_some, WV_d, WV_fr, WV_loc, WVT_d, WVT_fr, WB_bl, WF_fr, WG_some, WO_some, WO_ite, WO_map, w_var, w_C, w_op, w_un, w_test, w_chain, w_and, w_or, w_not, w_VT, w_ifE, w_A0, w_A1, w_call, w_blt, w_curs0, w_curs1, w_vals0, w_vals1, w_tup, w_lst, w_yes, WL_loc, w_app, w_pop, w_rev, w_put, w_getI, w_isi, w_p0, w_p1, w_sl, w_lstR, w_tupR, w_newK, w_newT, KL_nx, KL_ct, KL_bk, KL_rt, wipeE, clr_nil, clr_cons, c1_none, c1_d, c1_loc, WC_z, WC_s, lt_a1, lt_a2, lt_a3, st_take2, put_lst, put_dK, kit_bb, kit_ib, kit_ii, kit_sb, kit_si, kit_ss, kit_tb, kit_ti, kit_ts, kit_tt, ty_int, ty_bl, ty_str, ty_tup, add_int, add_str, add_tup, add_lst, sub_int, mul_int', mul_lst, fdiv_int, mod_int, pow_int, neg_int, lt_int', le_int', gt_int', ge_int', is_non, isn_non, is_bl, isn_bl, isNon_int, isNon_str, isNon_tup, isNon_bl, isNon_non, len_str, len_tup, len_lst, len_frl, len_dK, int_int, int_bl, abs_int, sum_lst, any_lst, all_lst, max2_int, min2_int, tuple_lst, tuple_tup, list_lst, list_tup, ix_tup, ix_lst, ix_frl, ix_frt, sl_tup, sl_lst, tg_d, tg_fr, tg_loc, cellV_lst, cellV_dK, cellV_dT, eq_int, ne_int, eq_bl, ne_bl, in_ints_tup, in_ints_lst, atI_0, atI_1, atI_2, atI_3, st_len, st_at, st_at1, st_set, st_set1, st_take, st_take1, st_all, st_lt, List.map_cons, List.map_nil, List.length_cons, List.length_nil, List.length_map, List.getElem?_cons_zero, List.getElem?_cons_succ, List.set_cons_zero, List.set_cons_succ, List.cons_append, List.nil_append, List.append_nil, List.replicate_succ, List.replicate_zero, List.append_assoc, Nat.reduceAdd, Nat.reduceSub, Nat.reduceLT, Nat.zero_add, Nat.add_zero, true_implies, false_implies, and_true, true_and, implies_true, List.length_set, take_set, List.getElem?_set_self, Bool.not_true, decide_true, decide_false, Bool.not_false, decide_eq_true_eq, decide_eq_false_iff_not, Bool.true_eq_false, Bool.false_eq_true, Option.some.injEq, exists_eq_left, exists_eq_left', R.d.injEq, D.int.injEq, D.bl.injEq, if_true, if_false, reduceIte, not_true_eq_false, not_false_eq_true, List.take_zero, List.take_succ_cons, and_self, Option.map_some, Bool.false_xor, Bool.and_self, Bool.true_and, Bool.and_true, Bool.true_xor]
    refine ⟨fun h => ?_, fun h => ?_⟩
    · have : b = 0 := by omega
      subst this
      rw [hE.zero]
    · refine ⟨by omega, ?_⟩
      rw [fmod_nat]
      exact ⟨_, _, _, rfl, by rw [List.length_append]; exact hE.step (by omega)⟩
  · rintro env s ⟨rfl, a, b, z, rfl, hE⟩
    rw [List.length_range] at hE
    have := hE.done b3 (by omega)
    subst this
    simp only [w_seq, KS_nx, KS_rt, KS_bk, KS_ct, w_next, w_set, w_setM, w_drop, w_ret, w_retN, w_brk, w_cnt, w_if, w_asg, w_parB, w_parC, w_N, w_N0, w_N1, w_NT, KF_nx, KF_rt, w_fun, fin_d, fin_fr, w_fin, WE_some, WT_some, WA_some, WI_some, WS_some, WV_d, WV_fr, WV_loc, WVT_d, WVT_fr, WB_bl, WF_fr, WG_some, WO_some, WO_ite, WO_map, w_var, w_C, w_op, w_un, w_test, w_chain, w_and, w_or, w_not, w_VT, w_ifE, w_A0, w_A1, w_call, w_blt, w_curs0, w_curs1, w_vals0, w_vals1, w_tup, w_lst, w_yes, WL_loc, w_app, w_pop, w_rev, w_put, w_getI, w_isi, w_p0, w_p1, w_sl, w_lstR, w_tupR, w_newK, w_newT, KL_nx, KL_ct, KL_bk, KL_rt, wipeE, clr_nil, clr_cons, c1_none, c1_d, c1_loc, WC_z, WC_s, lt_a1, lt_a2, lt_a3, st_take2, put_lst, put_dK, kit_bb, kit_ib, kit_ii, kit_sb, kit_si, kit_ss, kit_tb, kit_ti, kit_ts, kit_tt, ty_int, ty_bl, ty_str, ty_tup, add_int, add_str, add_tup, add_lst, sub_int, mul_int', mul_lst, fdiv_int, mod_int, pow_int, neg_int, lt_int', le_int', gt_int', ge_int', is_non, isn_non, is_bl, isn_bl, isNon_int, isNon_str, isNon_tup, isNon_bl, isNon_non, len_str, len_tup, len_lst, len_frl, len_dK, int_int, int_bl, abs_int, sum_lst, any_lst, all_lst, max2_int, min2_int, tuple_lst, tuple_tup, list_lst, list_tup, ix_tup, ix_lst, ix_frl, ix_frt, sl_tup, sl_lst, tg_d, tg_fr, tg_loc, cellV_lst, cellV_dK, cellV_dT, eq_int, ne_int, eq_bl, ne_bl, in_ints_tup, in_ints_lst, atI_0, atI_1, atI_2, atI_3, st_len, st_at, st_at1, st_set, st_set1, st_take, st_take1, st_all, st_lt, List.map_cons, List.map_nil, List.length_cons, List.length_nil, List.length_map, List.getElem?_cons_zero, List.getElem?_cons_succ, List.set_cons_zero, List.set_cons_succ, List.cons_append, List.nil_append, List.append_nil, List.replicate_succ, List.replicate_zero, List.append_assoc, Nat.reduceAdd, Nat.reduceSub, Nat.reduceLT, Nat.zero_add, Nat.add_zero, true_implies, false_implies, and_true, true_and, implies_true, List.length_set, take_set, List.getElem?_set_self, Bool.not_true, decide_true, decide_false, Bool.not_false, decide_eq_true_eq, decide_eq_false_iff_not, Bool.true_eq_false, Bool.false_eq_true, Option.some.injEq, exists_eq_left, exists_eq_left', R.d.injEq, D.int.injEq, D.bl.injEq, if_true, if_false, reduceIte, not_true_eq_false, not_false_eq_true, List.take_zero, List.take_succ_cons, and_self, Option.map_some, Bool.false_xor, Bool.and_self, Bool.true_and, Bool.and_true, Bool.true_xor]
    rw [hE.zero]
theorem lfraction_eq {n d : Int} {st : Sto} {k : Nat} (hn : n.natAbs < 2 ^ k) (h : 0 < d) (hd : d.natAbs < 2 ^ k) (hk : k ≤ 9000) : F__law_fraction [.d (.int n), .d (.int d)] st = some (.d (encQ (Rat.divInt n d)), st) := by
  refine of_we ?_
  unfold F__law_fraction
  have hg : ((Int.gcd n d : Nat) : Int) ≠ 0 := by have := gcd_pos (n := n) (show d ≠ 0 by omega); omega
  have o1 := divOk_sz (gcd_sz (n := n) (show d ≠ 0 by omega) hd) hk hg
  simp only [w_seq, KS_nx, KS_rt, KS_bk, KS_ct, w_next, w_set, w_setM, w_drop, w_ret, w_retN, w_brk, w_cnt, w_if, w_asg, w_parB, w_parC, w_N, w_N0, w_N1, w_NT, KF_nx, KF_rt, w_fun, fin_d, fin_fr, w_fin, WE_some, WT_some, WA_some, WI_some, WS_some, WV_d, WV_fr, WV_loc, WVT_d, WVT_fr, WB_bl, WF_fr, WG_some, WO_some, WO_ite, WO_map, w_var, w_C, w_op, w_un, w_test, w_chain, w_and, w_or, w_not, w_VT, w_ifE, w_A0, w_A1, w_call, w_blt, w_curs0, w_curs1, w_vals0, w_vals1, w_tup, w_lst, w_yes, WL_loc, w_app, w_pop, w_rev, w_put, w_getI, w_isi, w_p0, w_p1, w_sl, w_lstR, w_tupR, w_newK, w_newT, KL_nx, KL_ct, KL_bk, KL_rt, wipeE, clr_nil, clr_cons, c1_none, c1_d, c1_loc, WC_z, WC_s, lt_a1, lt_a2, lt_a3, st_take2, put_lst, put_dK, kit_bb, kit_ib, kit_ii, kit_sb, kit_si, kit_ss, kit_tb, kit_ti, kit_ts, kit_tt, ty_int, ty_bl, ty_str, ty_tup, add_int, add_str, add_tup, add_lst, sub_int, mul_int', mul_lst, fdiv_int, mod_int, pow_int, neg_int, lt_int', le_int', gt_int', ge_int', is_non, isn_non, is_bl, isn_bl, isNon_int, isNon_str, isNon_tup, isNon_bl, isNon_non, len_str, len_tup, len_lst, len_frl, len_dK, int_int, int_bl, abs_int, sum_lst, any_lst, all_lst, max2_int, min2_int, tuple_lst, tuple_tup, list_lst, list_tup, ix_tup, ix_lst, ix_frl, ix_frt, sl_tup, sl_lst, tg_d, tg_fr, tg_loc, cellV_lst, cellV_dK, cellV_dT, eq_int, ne_int, eq_bl, ne_bl, in_ints_tup, in_ints_lst, atI_0, atI_1, atI_2, atI_3, st_len, st_at, st_at1, st_set, st_set1, st_take, st_take1, st_all, st_lt, List.map_cons, List.map_nil, List.length_cons, List.length_nil, List.length_map, List.getElem?_cons_zero, List.getElem?_cons_succ, List.set_cons_zero, List.set_cons_succ, List.cons_append, List.nil_append, List.append_nil, List.replicate_succ, List.replicate_zero, List.append_assoc, Nat.reduceAdd, Nat.reduceSub, Nat.reduceLT, Nat.zero_add, Nat.add_zero, true_implies, false_implies, and_true, true_and, implies_true, List.length_set, take_set, List.getElem?_set_self, Bool.not_true, decide_true, decide_false, Bool.not_false, decide_eq_true_eq, decide_eq_false_iff_not, Bool.true_eq_false, Bool.false_eq_true, Option.some.injEq, exists_eq_left, exists_eq_left', R.d.injEq, D.int.injEq, D.bl.injEq, if_true, if_false, reduceIte, not_true_eq_false, not_false_eq_true, List.take_zero, List.take_succ_cons, and_self, Option.map_some, Bool.false_xor, Bool.and_self, Bool.true_and, Bool.and_true, Bool.true_xor, ldivisor_eq hn hd hk, o1]
  refine ⟨fits_small (by decide), ?_⟩
  rw [encQ_of (frac_pos h).1 (frac_pos h).2]
section
variable {a b : Rat} {st : Sto} (ha : Sz 2000 a) (hb : Sz 2000 b)
include ha hb
theorem nd_okl : mulOk a.num b.den ∧ mulOk b.num a.den ∧ mulOk a.den b.den ∧ mulOk a.num b.num ∧ mulOk a.den b.num :=
  ⟨mulOk_sz ha.1 hb.2 (by decide), mulOk_sz hb.1 ha.2 (by decide), mulOk_sz ha.2 hb.2 (by decide), mulOk_sz ha.1 hb.1 (by decide), mulOk_sz ha.2 hb.1 (by decide)⟩
theorem dd_szl : ((a.den : Int) * b.den).natAbs < 2 ^ 4001 ∧ 0 < (a.den : Int) * b.den := ⟨Nat.lt_of_lt_of_le (imul_sz (k := 2000) (l := 2000) ha.2 hb.2) (p2_mono (by decide)), Int.mul_pos (den_pos' a) (den_pos' b)⟩
theorem lplus_eq : F__law_plus [.d (encQ a), .d (encQ b)] st = some (.d (encQ (a + b)), st) := by
  refine of_we ?_
  obtain ⟨m1, m2, m3, m4, m5⟩ := nd_okl ha hb
  obtain ⟨d1, d2⟩ := dd_szl ha hb
  have n1 : (a.num * b.den + b.num * a.den).natAbs < 2 ^ 4001 := iadd_sz (imul_sz (k := 2000) (l := 2000) ha.1 hb.2) (imul_sz (k := 2000) (l := 2000) hb.1 ha.2)
  unfold F__law_plus
  simp only [w_seq, KS_nx, KS_rt, KS_bk, KS_ct, w_next, w_set, w_setM, w_drop, w_ret, w_retN, w_brk, w_cnt, w_if, w_asg, w_parB, w_parC, w_N, w_N0, w_N1, w_NT, KF_nx, KF_rt, w_fun, fin_d, fin_fr, w_fin, WE_some, WT_some, WA_some, WI_some, WS_some, WV_d, WV_fr, WV_loc, WVT_d, WVT_fr, WB_bl, WF_fr, WG_some, WO_some, WO_ite, WO_map, w_var, w_C, w_op, w_un, w_test, w_chain, w_and, w_or, w_not, w_VT, w_ifE, w_A0, w_A1, w_call, w_blt, w_curs0, w_curs1, w_vals0, w_vals1, w_tup, w_lst, w_yes, WL_loc, w_app, w_pop, w_rev, w_put, w_getI, w_isi, w_p0, w_p1, w_sl, w_lstR, w_tupR, w_newK, w_newT, KL_nx, KL_ct, KL_bk, KL_rt, wipeE, clr_nil, clr_cons, c1_none, c1_d, c1_loc, WC_z, WC_s, lt_a1, lt_a2, lt_a3, st_take2, put_lst, put_dK, kit_bb, kit_ib, kit_ii, kit_sb, kit_si, kit_ss, kit_tb, kit_ti, kit_ts, kit_tt, ty_int, ty_bl, ty_str, ty_tup, add_int, add_str, add_tup, add_lst, sub_int, mul_int', mul_lst, fdiv_int, mod_int, pow_int, neg_int, lt_int', le_int', gt_int', ge_int', is_non, isn_non, is_bl, isn_bl, isNon_int, isNon_str, isNon_tup, isNon_bl, isNon_non, len_str, len_tup, len_lst, len_frl, len_dK, int_int, int_bl, abs_int, sum_lst, any_lst, all_lst, max2_int, min2_int, tuple_lst, tuple_tup, list_lst, list_tup, ix_tup, ix_lst, ix_frl, ix_frt, sl_tup, sl_lst, tg_d, tg_fr, tg_loc, cellV_lst, cellV_dK, cellV_dT, eq_int, ne_int, eq_bl, ne_bl, in_ints_tup, in_ints_lst, atI_0, atI_1, atI_2, atI_3, st_len, st_at, st_at1, st_set, st_set1, st_take, st_take1, st_all, st_lt, List.map_cons, List.map_nil, List.length_cons, List.length_nil, List.length_map, List.getElem?_cons_zero, List.getElem?_cons_succ, List.set_cons_zero, List.set_cons_succ, List.cons_append, List.nil_append, List.append_nil, List.replicate_succ, List.replicate_zero, List.append_assoc, Nat.reduceAdd, Nat.reduceSub, Nat.reduceLT, Nat.zero_add, Nat.add_zero, true_implies, false_implies, and_true, true_and, implies_true, List.length_set, take_set, List.getElem?_set_self, Bool.not_true, decide_true, decide_false, Bool.not_false, decide_eq_true_eq, decide_eq_false_iff_not, Bool.true_eq_false, Bool.false_eq_true, Option.some.injEq, exists_eq_left, exists_eq_left', R.d.injEq, D.int.injEq, D.bl.injEq, if_true, if_false, reduceIte, not_true_eq_false, not_false_eq_true, List.take_zero, List.take_succ_cons, and_self, Option.map_some, Bool.false_xor, Bool.and_self, Bool.true_and, Bool.and_true, Bool.true_xor, ix_Q0, ix_Q1, m1, m2, m3, lfraction_eq n1 d2 d1 (by decide), add_div]
theorem lless_eq : F__law_less [.d (encQ a), .d (encQ b)] st = some (.d (.bl (decide (a < b))), st) := by
  refine of_we ?_
  obtain ⟨m1, m2, m3, m4, m5⟩ := nd_okl ha hb
  unfold F__law_less
  simp only [w_seq, KS_nx, KS_rt, KS_bk, KS_ct, w_next, w_set, w_setM, w_drop, w_ret, w_retN, w_brk, w_cnt, w_if, w_asg, w_parB, w_parC, w_N, w_N0, w_N1, w_NT, KF_nx, KF_rt, w_fun, fin_d, fin_fr, w_fin, WE_some, WT_some, WA_some, WI_some, WS_some, WV_d, WV_fr, WV_loc, WVT_d, WVT_fr, WB_bl, WF_fr, WG_some, WO_some, WO_ite, WO_map, w_var, w_C, w_op, w_un, w_test, w_chain, w_and, w_or, w_not, w_VT, w_ifE, w_A0, w_A1, w_call, w_blt, w_curs0, w_curs1, w_vals0, w_vals1, w_tup, w_lst, w_yes, WL_loc, w_app, w_pop, w_rev, w_put, w_getI, w_isi, w_p0, w_p1, w_sl, w_lstR, w_tupR, w_newK, w_newT, KL_nx, KL_ct, KL_bk, KL_rt, wipeE, clr_nil, clr_cons, c1_none, c1_d, c1_loc, WC_z, WC_s, lt_a1, lt_a2, lt_a3, st_take2, put_lst, put_dK, kit_bb, kit_ib, kit_ii, kit_sb, kit_si, kit_ss, kit_tb, kit_ti, kit_ts, kit_tt, ty_int, ty_bl, ty_str, ty_tup, add_int, add_str, add_tup, add_lst, sub_int, mul_int', mul_lst, fdiv_int, mod_int, pow_int, neg_int, lt_int', le_int', gt_int', ge_int', is_non, isn_non, is_bl, isn_bl, isNon_int, isNon_str, isNon_tup, isNon_bl, isNon_non, len_str, len_tup, len_lst, len_frl, len_dK, int_int, int_bl, abs_int, sum_lst, any_lst, all_lst, max2_int, min2_int, tuple_lst, tuple_tup, list_lst, list_tup, ix_tup, ix_lst, ix_frl, ix_frt, sl_tup, sl_lst, tg_d, tg_fr, tg_loc, cellV_lst, cellV_dK, cellV_dT, eq_int, ne_int, eq_bl, ne_bl, in_ints_tup, in_ints_lst, atI_0, atI_1, atI_2, atI_3, st_len, st_at, st_at1, st_set, st_set1, st_take, st_take1, st_all, st_lt, List.map_cons, List.map_nil, List.length_cons, List.length_nil, List.length_map, List.getElem?_cons_zero, List.getElem?_cons_succ, List.set_cons_zero, List.set_cons_succ, List.cons_append, List.nil_append, List.append_nil, List.replicate_succ, List.replicate_zero, List.append_assoc, Nat.reduceAdd, Nat.reduceSub, Nat.reduceLT, Nat.zero_add, Nat.add_zero, true_implies, false_implies, and_true, true_and, implies_true, List.length_set, take_set, List.getElem?_set_self, Bool.not_true, decide_true, decide_false, Bool.not_false, decide_eq_true_eq, decide_eq_false_iff_not, Bool.true_eq_false, Bool.false_eq_true, Option.some.injEq, exists_eq_left, exists_eq_left', R.d.injEq, D.int.injEq, D.bl.injEq, if_true, if_false, reduceIte, not_true_eq_false, not_false_eq_true, List.take_zero, List.take_succ_cons, and_self, Option.map_some, Bool.false_xor, Bool.and_self, Bool.true_and, Bool.and_true, Bool.true_xor, ix_Q0, ix_Q1, m1, m2, lt_num]
end
theorem lwhole_eq {n : Int} {st : Sto} : F__law_whole [.d (.int n)] st = some (.d (encQ (n : Rat)), st) := by
  refine of_we ?_
  unfold F__law_whole
  simp only [fit0, fit1, fit2, fit3, fit4, fit5, fit6, fit7, fit8, fit9, fit10, fit11, fit12, fit13, fit14, fit15, fit16, fit17, fit18, fit19, fit20, fit21, fit22, fit23, fit24, fit25, fit26, fit27, fit28, fit29, fit30, tame_int, tame_bl, tame_non, tame_tup2, tames_nil, tames_cons, w_seq, KS_nx, KS_rt, KS_bk, KS_ct, w_next, w_set, w_setM, w_drop, w_ret, w_retN, w_brk, w_cnt, w_if, w_asg, w_parB, w_parC, w_N, w_N0, w_N1, w_NT, KF_nx, KF_rt, w_fun, fin_d, fin_fr, w_fin, WE_some, WT_some, WA_some, WI_some, WS_some, WV_d, WV_fr, WV_loc, WVT_d, WVT_fr, WB_bl, WF_fr, WG_some, WO_some, WO_ite, WO_map, w_var, w_C, w_op, w_un, w_test, w_chain, w_and, w_or, w_not, w_VT, w_ifE, w_A0, w_A1, w_call, w_blt, w_curs0, w_curs1, w_vals0, w_vals1, w_tup, w_lst, w_yes, WL_loc, w_app, w_pop, w_rev, w_put, w_getI, w_isi, w_p0, w_p1, w_sl, w_lstR, w_tupR, w_newK, w_newT, KL_nx, KL_ct, KL_bk, KL_rt, wipeE, clr_nil, clr_cons, c1_none, c1_d, c1_loc, WC_z, WC_s, lt_a1, lt_a2, lt_a3, st_take2, put_lst, put_dK, kit_bb, kit_ib, kit_ii, kit_sb, kit_si, kit_ss, kit_tb, kit_ti, kit_ts, kit_tt, ty_int, ty_bl, ty_str, ty_tup, add_int, add_str, add_tup, add_lst, sub_int, mul_int', mul_lst, fdiv_int, mod_int, pow_int, neg_int, lt_int', le_int', gt_int', ge_int', is_non, isn_non, is_bl, isn_bl, isNon_int, isNon_str, isNon_tup, isNon_bl, isNon_non, len_str, len_tup, len_lst, len_frl, len_dK, int_int, int_bl, abs_int, sum_lst, any_lst, all_lst, max2_int, min2_int, tuple_lst, tuple_tup, list_lst, list_tup, ix_tup, ix_lst, ix_frl, ix_frt, sl_tup, sl_lst, tg_d, tg_fr, tg_loc, cellV_lst, cellV_dK, cellV_dT, eq_int, ne_int, eq_bl, ne_bl, in_ints_tup, in_ints_lst, atI_0, atI_1, atI_2, atI_3, st_len, st_at, st_at1, st_set, st_set1, st_take, st_take1, st_all, st_lt, List.map_cons, List.map_nil, List.length_cons, List.length_nil, List.length_map, List.getElem?_cons_zero, List.getElem?_cons_succ, List.set_cons_zero, List.set_cons_succ, List.cons_append, List.nil_append, List.append_nil, List.replicate_succ, List.replicate_zero, List.append_assoc, Nat.reduceAdd, Nat.reduceSub, Nat.reduceLT, Nat.zero_add, Nat.add_zero, true_implies, false_implies, and_true, true_and, implies_true, List.length_set, take_set, List.getElem?_set_self, Bool.not_true, decide_true, decide_false, Bool.not_false, decide_eq_true_eq, decide_eq_false_iff_not, Bool.true_eq_false, Bool.false_eq_true, Option.some.injEq, exists_eq_left, exists_eq_left', R.d.injEq, D.int.injEq, D.bl.injEq, if_true, if_false, reduceIte, not_true_eq_false, not_false_eq_true, List.take_zero, List.take_succ_cons, and_self, Option.map_some, Bool.false_xor, Bool.and_self, Bool.true_and, Bool.and_true, Bool.true_xor]
  first | exact ⟨rfl, rfl⟩ | rfl
section
variable {a b : Rat} {st : Sto} (ha : Sz 2000 a) (hb : Sz 2000 b)
include ha hb
theorem ltimes_eq : F__law_times [.d (encQ a), .d (encQ b)] st = some (.d (encQ (a * b)), st) := by
  refine of_we ?_
  obtain ⟨m1, m2, m3, m4, m5⟩ := nd_okl ha hb
  obtain ⟨d1, d2⟩ := dd_szl ha hb
  have n1 : (a.num * b.num).natAbs < 2 ^ 4001 := Nat.lt_of_lt_of_le (imul_sz (k := 2000) (l := 2000) ha.1 hb.1) (p2_mono (by decide))
  unfold F__law_times
  simp only [w_seq, KS_nx, KS_rt, KS_bk, KS_ct, w_next, w_set, w_setM, w_drop, w_ret, w_retN, w_brk, w_cnt, w_if, w_asg, w_parB, w_parC, w_N, w_N0, w_N1, w_NT, KF_nx, KF_rt, w_fun, fin_d, fin_fr, w_fin, WE_some, WT_some, WA_some, WI_some, WS_some, WV_d, WV_fr, WV_loc, WVT_d, WVT_fr, WB_bl, WF_fr, WG_some, WO_some, WO_ite, WO_map, w_var, w_C, w_op, w_un, w_test, w_chain, w_and, w_or, w_not, w_VT, w_ifE, w_A0, w_A1, w_call, w_blt, w_curs0, w_curs1, w_vals0, w_vals1, w_tup, w_lst, w_yes, WL_loc, w_app, w_pop, w_rev, w_put, w_getI, w_isi, w_p0, w_p1, w_sl, w_lstR, w_tupR, w_newK, w_newT, KL_nx, KL_ct, KL_bk, KL_rt, wipeE, clr_nil, clr_cons, c1_none, c1_d, c1_loc, WC_z, WC_s, lt_a1, lt_a2, lt_a3, st_take2, put_lst, put_dK, kit_bb, kit_ib, kit_ii, kit_sb, kit_si, kit_ss, kit_tb, kit_ti, kit_ts, kit_tt, ty_int, ty_bl, ty_str, ty_tup, add_int, add_str, add_tup, add_lst, sub_int, mul_int', mul_lst, fdiv_int, mod_int, pow_int, neg_int, lt_int', le_int', gt_int', ge_int', is_non, isn_non, is_bl, isn_bl, isNon_int, isNon_str, isNon_tup, isNon_bl, isNon_non, len_str, len_tup, len_lst, len_frl, len_dK, int_int, int_bl, abs_int, sum_lst, any_lst, all_lst, max2_int, min2_int, tuple_lst, tuple_tup, list_lst, list_tup, ix_tup, ix_lst, ix_frl, ix_frt, sl_tup, sl_lst, tg_d, tg_fr, tg_loc, cellV_lst, cellV_dK, cellV_dT, eq_int, ne_int, eq_bl, ne_bl, in_ints_tup, in_ints_lst, atI_0, atI_1, atI_2, atI_3, st_len, st_at, st_at1, st_set, st_set1, st_take, st_take1, st_all, st_lt, List.map_cons, List.map_nil, List.length_cons, List.length_nil, List.length_map, List.getElem?_cons_zero, List.getElem?_cons_succ, List.set_cons_zero, List.set_cons_succ, List.cons_append, List.nil_append, List.append_nil, List.replicate_succ, List.replicate_zero, List.append_assoc, Nat.reduceAdd, Nat.reduceSub, Nat.reduceLT, Nat.zero_add, Nat.add_zero, true_implies, false_implies, and_true, true_and, implies_true, List.length_set, take_set, List.getElem?_set_self, Bool.not_true, decide_true, decide_false, Bool.not_false, decide_eq_true_eq, decide_eq_false_iff_not, Bool.true_eq_false, Bool.false_eq_true, Option.some.injEq, exists_eq_left, exists_eq_left', R.d.injEq, D.int.injEq, D.bl.injEq, if_true, if_false, reduceIte, not_true_eq_false, not_false_eq_true, List.take_zero, List.take_succ_cons, and_self, Option.map_some, Bool.false_xor, Bool.and_self, Bool.true_and, Bool.and_true, Bool.true_xor, ix_Q0, ix_Q1, m3, m4, lfraction_eq n1 d2 d1 (by decide), mul_div]
theorem lover_eq (h0 : 0 < b) : F__law_over [.d (encQ a), .d (encQ b)] st = some (.d (encQ (a / b)), st) := by
  refine of_we ?_
  obtain ⟨m1, m2, m3, m4, m5⟩ := nd_okl ha hb
  have n1 : (a.num * b.den).natAbs < 2 ^ 4000 := imul_sz (k := 2000) (l := 2000) ha.1 hb.2
  have d1 : ((a.den : Int) * b.num).natAbs < 2 ^ 4000 := imul_sz (k := 2000) (l := 2000) ha.2 hb.1
  have hp : 0 < b.num := by
    have h1 := Rat.num_nonneg.mpr (Rat.le_of_lt h0)
    have h2 : b.num ≠ 0 := fun e => Rat.ne_of_gt h0 (Rat.num_eq_zero.mp e)
    omega
  have d2 : 0 < (a.den : Int) * b.num := Int.mul_pos (den_pos' a) hp
  unfold F__law_over
  simp only [w_seq, KS_nx, KS_rt, KS_bk, KS_ct, w_next, w_set, w_setM, w_drop, w_ret, w_retN, w_brk, w_cnt, w_if, w_asg, w_parB, w_parC, w_N, w_N0, w_N1, w_NT, KF_nx, KF_rt, w_fun, fin_d, fin_fr, w_fin, WE_some, WT_some, WA_some, WI_some, WS_some, WV_d, WV_fr, WV_loc, WVT_d, WVT_fr, WB_bl, WF_fr, WG_some, WO_some, WO_ite, WO_map, w_var, w_C, w_op, w_un, w_test, w_chain, w_and, w_or, w_not, w_VT, w_ifE, w_A0, w_A1, w_call, w_blt, w_curs0, w_curs1, w_vals0, w_vals1, w_tup, w_lst, w_yes, WL_loc, w_app, w_pop, w_rev, w_put, w_getI, w_isi, w_p0, w_p1, w_sl, w_lstR, w_tupR, w_newK, w_newT, KL_nx, KL_ct, KL_bk, KL_rt, wipeE, clr_nil, clr_cons, c1_none, c1_d, c1_loc, WC_z, WC_s, lt_a1, lt_a2, lt_a3, st_take2, put_lst, put_dK, kit_bb, kit_ib, kit_ii, kit_sb, kit_si, kit_ss, kit_tb, kit_ti, kit_ts, kit_tt, ty_int, ty_bl, ty_str, ty_tup, add_int, add_str, add_tup, add_lst, sub_int, mul_int', mul_lst, fdiv_int, mod_int, pow_int, neg_int, lt_int', le_int', gt_int', ge_int', is_non, isn_non, is_bl, isn_bl, isNon_int, isNon_str, isNon_tup, isNon_bl, isNon_non, len_str, len_tup, len_lst, len_frl, len_dK, int_int, int_bl, abs_int, sum_lst, any_lst, all_lst, max2_int, min2_int, tuple_lst, tuple_tup, list_lst, list_tup, ix_tup, ix_lst, ix_frl, ix_frt, sl_tup, sl_lst, tg_d, tg_fr, tg_loc, cellV_lst, cellV_dK, cellV_dT, eq_int, ne_int, eq_bl, ne_bl, in_ints_tup, in_ints_lst, atI_0, atI_1, atI_2, atI_3, st_len, st_at, st_at1, st_set, st_set1, st_take, st_take1, st_all, st_lt, List.map_cons, List.map_nil, List.length_cons, List.length_nil, List.length_map, List.getElem?_cons_zero, List.getElem?_cons_succ, List.set_cons_zero, List.set_cons_succ, List.cons_append, List.nil_append, List.append_nil, List.replicate_succ, List.replicate_zero, List.append_assoc, Nat.reduceAdd, Nat.reduceSub, Nat.reduceLT, Nat.zero_add, Nat.add_zero, true_implies, false_implies, and_true, true_and, implies_true, List.length_set, take_set, List.getElem?_set_self, Bool.not_true, decide_true, decide_false, Bool.not_false, decide_eq_true_eq, decide_eq_false_iff_not, Bool.true_eq_false, Bool.false_eq_true, Option.some.injEq, exists_eq_left, exists_eq_left', R.d.injEq, D.int.injEq, D.bl.injEq, if_true, if_false, reduceIte, not_true_eq_false, not_false_eq_true, List.take_zero, List.take_succ_cons, and_self, Option.map_some, Bool.false_xor, Bool.and_self, Bool.true_and, Bool.and_true, Bool.true_xor, ix_Q0, ix_Q1, m1, m5, lfraction_eq n1 d2 d1 (by decide), div_div]
theorem lminus_eq : F__law_minus [.d (encQ a), .d (encQ b)] st = some (.d (encQ (a - b)), st) := by
  refine of_we ?_
  have hb2 : Sz 2000 (-b) := ⟨by rw [Rat.neg_num, Int.natAbs_neg]; exact hb.1, hb.2⟩
  have e : D.tup [.int (0 - b.num), .int (b.den : Int)] = encQ (-b) := by unfold encQ; rw [Int.zero_sub, Rat.neg_num, Rat.neg_den]
  unfold F__law_minus
  simp only [fit0, fit1, fit2, fit3, fit4, fit5, fit6, fit7, fit8, fit9, fit10, fit11, fit12, fit13, fit14, fit15, fit16, fit17, fit18, fit19, fit20, fit21, fit22, fit23, fit24, fit25, fit26, fit27, fit28, fit29, fit30, tame_int, tame_bl, tame_non, tame_tup2, tames_nil, tames_cons, w_seq, KS_nx, KS_rt, KS_bk, KS_ct, w_next, w_set, w_setM, w_drop, w_ret, w_retN, w_brk, w_cnt, w_if, w_asg, w_parB, w_parC, w_N, w_N0, w_N1, w_NT, KF_nx, KF_rt, w_fun, fin_d, fin_fr, w_fin, WE_some, WT_some, WA_some, WI_some, WS_some, WV_d, WV_fr, WV_loc, WVT_d, WVT_fr, WB_bl, WF_fr, WG_some, WO_some, WO_ite, WO_map, w_var, w_C, w_op, w_un, w_test, w_chain, w_and, w_or, w_not, w_VT, w_ifE, w_A0, w_A1, w_call, w_blt, w_curs0, w_curs1, w_vals0, w_vals1, w_tup, w_lst, w_yes, WL_loc, w_app, w_pop, w_rev, w_put, w_getI, w_isi, w_p0, w_p1, w_sl, w_lstR, w_tupR, w_newK, w_newT, KL_nx, KL_ct, KL_bk, KL_rt, wipeE, clr_nil, clr_cons, c1_none, c1_d, c1_loc, WC_z, WC_s, lt_a1, lt_a2, lt_a3, st_take2, put_lst, put_dK, kit_bb, kit_ib, kit_ii, kit_sb, kit_si, kit_ss, kit_tb, kit_ti, kit_ts, kit_tt, ty_int, ty_bl, ty_str, ty_tup, add_int, add_str, add_tup, add_lst, sub_int, mul_int', mul_lst, fdiv_int, mod_int, pow_int, neg_int, lt_int', le_int', gt_int', ge_int', is_non, isn_non, is_bl, isn_bl, isNon_int, isNon_str, isNon_tup, isNon_bl, isNon_non, len_str, len_tup, len_lst, len_frl, len_dK, int_int, int_bl, abs_int, sum_lst, any_lst, all_lst, max2_int, min2_int, tuple_lst, tuple_tup, list_lst, list_tup, ix_tup, ix_lst, ix_frl, ix_frt, sl_tup, sl_lst, tg_d, tg_fr, tg_loc, cellV_lst, cellV_dK, cellV_dT, eq_int, ne_int, eq_bl, ne_bl, in_ints_tup, in_ints_lst, atI_0, atI_1, atI_2, atI_3, st_len, st_at, st_at1, st_set, st_set1, st_take, st_take1, st_all, st_lt, List.map_cons, List.map_nil, List.length_cons, List.length_nil, List.length_map, List.getElem?_cons_zero, List.getElem?_cons_succ, List.set_cons_zero, List.set_cons_succ, List.cons_append, List.nil_append, List.append_nil, List.replicate_succ, List.replicate_zero, List.append_assoc, Nat.reduceAdd, Nat.reduceSub, Nat.reduceLT, Nat.zero_add, Nat.add_zero, true_implies, false_implies, and_true, true_and, implies_true, List.length_set, take_set, List.getElem?_set_self, Bool.not_true, decide_true, decide_false, Bool.not_false, decide_eq_true_eq, decide_eq_false_iff_not, Bool.true_eq_false, Bool.false_eq_true, Option.some.injEq, exists_eq_left, exists_eq_left', R.d.injEq, D.int.injEq, D.bl.injEq, if_true, if_false, reduceIte, not_true_eq_false, not_false_eq_true, List.take_zero, List.take_succ_cons, and_self, Option.map_some, Bool.false_xor, Bool.and_self, Bool.true_and, Bool.and_true, Bool.true_xor, ix_Q0, ix_Q1, e, lplus_eq ha hb2, Rat.sub_eq_add_neg]
end
theorem sz_big {k : Nat} {q : Rat} (h : Sz k q) (hk : k ≤ 2000 := by decide) : Sz 2000 q := h.mono hk
theorem half_Q : D.tup [.int 1, .int 2] = encQ (1 / 2) := by
  unfold encQ
  rw [show (1 / 2 : Rat).num = 1 by decide +kernel, show (1 / 2 : Rat).den = 2 by decide +kernel]; rfl
theorem half_n : (1 / 2 : Rat).num = 1 := by decide +kernel
theorem half_d : (1 / 2 : Rat).den = 2 := by decide +kernel
theorem sz_half : Sz 10 (1 / 2 : Rat) := ⟨by rw [half_n]; decide, by rw [half_d]; decide⟩
theorem four_Q : D.tup [.int 4, .int 1] = encQ 4 := rfl
theorem two_Q : D.tup [.int 2, .int 1] = encQ 2 := rfl
theorem zero_Q : D.tup [.int 0, .int 1] = encQ 0 := rfl
theorem sz_4 : Sz 10 (4 : Rat) := ⟨by decide, by decide⟩
theorem sz_2 : Sz 10 (2 : Rat) := ⟨by decide, by decide⟩
theorem sz_0 : Sz 10 (0 : Rat) := ⟨by decide, by decide⟩
theorem floor_eq {q : Rat} {st : Sto} {k : Nat} (h : Sz k q) (hk : k ≤ 9000) : F_floor_of [.d (encQ q)] st = some (.d (.int q.floor), st) := by
  refine of_we ?_
  have hd : divOk (q.den : Int) := divOk_sz (nat_sz h.2) hk (Int.ne_of_gt (den_pos' q))
  unfold F_floor_of
  simp only [w_seq, KS_nx, KS_rt, KS_bk, KS_ct, w_next, w_set, w_setM, w_drop, w_ret, w_retN, w_brk, w_cnt, w_if, w_asg, w_parB, w_parC, w_N, w_N0, w_N1, w_NT, KF_nx, KF_rt, w_fun, fin_d, fin_fr, w_fin, WE_some, WT_some, WA_some, WI_some, WS_some, WV_d, WV_fr, WV_loc, WVT_d, WVT_fr, WB_bl, WF_fr, WG_some, WO_some, WO_ite, WO_map, w_var, w_C, w_op, w_un, w_test, w_chain, w_and, w_or, w_not, w_VT, w_ifE, w_A0, w_A1, w_call, w_blt, w_curs0, w_curs1, w_vals0, w_vals1, w_tup, w_lst, w_yes, WL_loc, w_app, w_pop, w_rev, w_put, w_getI, w_isi, w_p0, w_p1, w_sl, w_lstR, w_tupR, w_newK, w_newT, KL_nx, KL_ct, KL_bk, KL_rt, wipeE, clr_nil, clr_cons, c1_none, c1_d, c1_loc, WC_z, WC_s, lt_a1, lt_a2, lt_a3, st_take2, put_lst, put_dK, kit_bb, kit_ib, kit_ii, kit_sb, kit_si, kit_ss, kit_tb, kit_ti, kit_ts, kit_tt, ty_int, ty_bl, ty_str, ty_tup, add_int, add_str, add_tup, add_lst, sub_int, mul_int', mul_lst, fdiv_int, mod_int, pow_int, neg_int, lt_int', le_int', gt_int', ge_int', is_non, isn_non, is_bl, isn_bl, isNon_int, isNon_str, isNon_tup, isNon_bl, isNon_non, len_str, len_tup, len_lst, len_frl, len_dK, int_int, int_bl, abs_int, sum_lst, any_lst, all_lst, max2_int, min2_int, tuple_lst, tuple_tup, list_lst, list_tup, ix_tup, ix_lst, ix_frl, ix_frt, sl_tup, sl_lst, tg_d, tg_fr, tg_loc, cellV_lst, cellV_dK, cellV_dT, eq_int, ne_int, eq_bl, ne_bl, in_ints_tup, in_ints_lst, atI_0, atI_1, atI_2, atI_3, st_len, st_at, st_at1, st_set, st_set1, st_take, st_take1, st_all, st_lt, List.map_cons, List.map_nil, List.length_cons, List.length_nil, List.length_map, List.getElem?_cons_zero, List.getElem?_cons_succ, List.set_cons_zero, List.set_cons_succ, List.cons_append, List.nil_append, List.append_nil, List.replicate_succ, List.replicate_zero, List.append_assoc, Nat.reduceAdd, Nat.reduceSub, Nat.reduceLT, Nat.zero_add, Nat.add_zero, true_implies, false_implies, and_true, true_and, implies_true, List.length_set, take_set, List.getElem?_set_self, Bool.not_true, decide_true, decide_false, Bool.not_false, decide_eq_true_eq, decide_eq_false_iff_not, Bool.true_eq_false, Bool.false_eq_true, Option.some.injEq, exists_eq_left, exists_eq_left', R.d.injEq, D.int.injEq, D.bl.injEq, if_true, if_false, reduceIte, not_true_eq_false, not_false_eq_true, List.take_zero, List.take_succ_cons, and_self, Option.map_some, Bool.false_xor, Bool.and_self, Bool.true_and, Bool.and_true, Bool.true_xor, ix_Q0, ix_Q1, hd, Rat.floor_def, Int.fdiv_eq_ediv_of_nonneg _ (Int.le_of_lt (den_pos' q))]
theorem lfloor_eq {q : Rat} {st : Sto} {k : Nat} (h : Sz k q) (hk : k ≤ 9000) : F__law_floor [.d (encQ q)] st = some (.d (.int q.floor), st) := by
  refine of_we ?_
  have hp := den_pos' q
  have hd : divOk (q.den : Int) := divOk_sz (nat_sz h.2) hk (Int.ne_of_gt hp)
  have h0 : (q.den : Int) ≠ 0 := Int.ne_of_gt hp
  have e : (q.num - q.num.fmod q.den).fdiv q.den = q.num / q.den := by
    rw [Int.fmod_eq_emod_of_nonneg _ (Int.le_of_lt hp), Int.fdiv_eq_ediv_of_nonneg _ (Int.le_of_lt hp)]
    rw [show q.num - q.num % q.den = q.den * (q.num / q.den) by have := Int.mul_ediv_add_emod q.num q.den; omega, Int.mul_ediv_cancel_left _ (Int.ne_of_gt hp)]
  unfold F__law_floor
  simp only [w_seq, KS_nx, KS_rt, KS_bk, KS_ct, w_next, w_set, w_setM, w_drop, w_ret, w_retN, w_brk, w_cnt, w_if, w_asg, w_parB, w_parC, w_N, w_N0, w_N1, w_NT, KF_nx, KF_rt, w_fun, fin_d, fin_fr, w_fin, WE_some, WT_some, WA_some, WI_some, WS_some, WV_d, WV_fr, WV_loc, WVT_d, WVT_fr, WB_bl, WF_fr, WG_some, WO_some, WO_ite, WO_map, w_var, w_C, w_op, w_un, w_test, w_chain, w_and, w_or, w_not, w_VT, w_ifE, w_A0, w_A1, w_call, w_blt, w_curs0, w_curs1, w_vals0, w_vals1, w_tup, w_lst, w_yes, WL_loc, w_app, w_pop, w_rev, w_put, w_getI, w_isi, w_p0, w_p1, w_sl, w_lstR, w_tupR, w_newK, w_newT, KL_nx, KL_ct, KL_bk, KL_rt, wipeE, clr_nil, clr_cons, c1_none, c1_d, c1_loc, WC_z, WC_s, lt_a1, lt_a2, lt_a3, st_take2, put_lst, put_dK, kit_bb, kit_ib, kit_ii, kit_sb, kit_si, kit_ss, kit_tb, kit_ti, kit_ts, kit_tt, ty_int, ty_bl, ty_str, ty_tup, add_int, add_str, add_tup, add_lst, sub_int, mul_int', mul_lst, fdiv_int, mod_int, pow_int, neg_int, lt_int', le_int', gt_int', ge_int', is_non, isn_non, is_bl, isn_bl, isNon_int, isNon_str, isNon_tup, isNon_bl, isNon_non, len_str, len_tup, len_lst, len_frl, len_dK, int_int, int_bl, abs_int, sum_lst, any_lst, all_lst, max2_int, min2_int, tuple_lst, tuple_tup, list_lst, list_tup, ix_tup, ix_lst, ix_frl, ix_frt, sl_tup, sl_lst, tg_d, tg_fr, tg_loc, cellV_lst, cellV_dK, cellV_dT, eq_int, ne_int, eq_bl, ne_bl, in_ints_tup, in_ints_lst, atI_0, atI_1, atI_2, atI_3, st_len, st_at, st_at1, st_set, st_set1, st_take, st_take1, st_all, st_lt, List.map_cons, List.map_nil, List.length_cons, List.length_nil, List.length_map, List.getElem?_cons_zero, List.getElem?_cons_succ, List.set_cons_zero, List.set_cons_succ, List.cons_append, List.nil_append, List.append_nil, List.replicate_succ, List.replicate_zero, List.append_assoc, Nat.reduceAdd, Nat.reduceSub, Nat.reduceLT, Nat.zero_add, Nat.add_zero, true_implies, false_implies, and_true, true_and, implies_true, List.length_set, take_set, List.getElem?_set_self, Bool.not_true, decide_true, decide_false, Bool.not_false, decide_eq_true_eq, decide_eq_false_iff_not, Bool.true_eq_false, Bool.false_eq_true, Option.some.injEq, exists_eq_left, exists_eq_left', R.d.injEq, D.int.injEq, D.bl.injEq, if_true, if_false, reduceIte, not_true_eq_false, not_false_eq_true, List.take_zero, List.take_succ_cons, and_self, Option.map_some, Bool.false_xor, Bool.and_self, Bool.true_and, Bool.and_true, Bool.true_xor, ix_Q0, ix_Q1, hd, Rat.floor_def, e]
  exact h0
/-- a moon as the law makes it -/
structure Mo (new turn : Rat) : Prop where
  n : Sz 300 new
  t : Sz 300 turn
  one : 1 ≤ turn
theorem Mo.pos {new turn : Rat} (m : Mo new turn) : 0 < turn := by have := m.one; grind
theorem Mo.ne {new turn : Rat} (m : Mo new turn) : turn ≠ 0 := by have := m.one; grind
section
variable {new turn : Rat} {d : Int} {st : Sto} (m : Mo new turn)
theorem sz_P (m : Mo new turn) (hd : d.natAbs < 2 ^ 300) : Sz 901 (mP new turn d) := ((sz_int hd (by decide)).sub m.n).div m.t m.ne
theorem sz_rnd (m : Mo new turn) (hd : d.natAbs < 2 ^ 300) : (mRnd new turn d).natAbs < 2 ^ 901 := (sz_P m hd).floor
theorem sz_new (m : Mo new turn) {n : Int} (hn : n.natAbs < 2 ^ 1000) : Sz 1601 (mNew new turn n) := m.n.add (m.t.mul (sz_int hn (by decide)))
include m
theorem rounds_eq (hd : d.natAbs < 2 ^ 300) : F_rounds_by [.d (encQ new), .d (encQ turn), .d (.int d)] st = some (.d (.int (mRnd new turn d)), st) := by
  refine of_we ?_
  have s1 : Sz 300 (d : Rat) := sz_int hd (by decide)
  have s2 := s1.sub m.n
  have s3 := sz_P m hd
  unfold mP at s3
  unfold F_rounds_by
  simp only [w_seq, KS_nx, KS_rt, KS_bk, KS_ct, w_next, w_set, w_setM, w_drop, w_ret, w_retN, w_brk, w_cnt, w_if, w_asg, w_parB, w_parC, w_N, w_N0, w_N1, w_NT, KF_nx, KF_rt, w_fun, fin_d, fin_fr, w_fin, WE_some, WT_some, WA_some, WI_some, WS_some, WV_d, WV_fr, WV_loc, WVT_d, WVT_fr, WB_bl, WF_fr, WG_some, WO_some, WO_ite, WO_map, w_var, w_C, w_op, w_un, w_test, w_chain, w_and, w_or, w_not, w_VT, w_ifE, w_A0, w_A1, w_call, w_blt, w_curs0, w_curs1, w_vals0, w_vals1, w_tup, w_lst, w_yes, WL_loc, w_app, w_pop, w_rev, w_put, w_getI, w_isi, w_p0, w_p1, w_sl, w_lstR, w_tupR, w_newK, w_newT, KL_nx, KL_ct, KL_bk, KL_rt, wipeE, clr_nil, clr_cons, c1_none, c1_d, c1_loc, WC_z, WC_s, lt_a1, lt_a2, lt_a3, st_take2, put_lst, put_dK, kit_bb, kit_ib, kit_ii, kit_sb, kit_si, kit_ss, kit_tb, kit_ti, kit_ts, kit_tt, ty_int, ty_bl, ty_str, ty_tup, add_int, add_str, add_tup, add_lst, sub_int, mul_int', mul_lst, fdiv_int, mod_int, pow_int, neg_int, lt_int', le_int', gt_int', ge_int', is_non, isn_non, is_bl, isn_bl, isNon_int, isNon_str, isNon_tup, isNon_bl, isNon_non, len_str, len_tup, len_lst, len_frl, len_dK, int_int, int_bl, abs_int, sum_lst, any_lst, all_lst, max2_int, min2_int, tuple_lst, tuple_tup, list_lst, list_tup, ix_tup, ix_lst, ix_frl, ix_frt, sl_tup, sl_lst, tg_d, tg_fr, tg_loc, cellV_lst, cellV_dK, cellV_dT, eq_int, ne_int, eq_bl, ne_bl, in_ints_tup, in_ints_lst, atI_0, atI_1, atI_2, atI_3, st_len, st_at, st_at1, st_set, st_set1, st_take, st_take1, st_all, st_lt, List.map_cons, List.map_nil, List.length_cons, List.length_nil, List.length_map, List.getElem?_cons_zero, List.getElem?_cons_succ, List.set_cons_zero, List.set_cons_succ, List.cons_append, List.nil_append, List.append_nil, List.replicate_succ, List.replicate_zero, List.append_assoc, Nat.reduceAdd, Nat.reduceSub, Nat.reduceLT, Nat.zero_add, Nat.add_zero, true_implies, false_implies, and_true, true_and, implies_true, List.length_set, take_set, List.getElem?_set_self, Bool.not_true, decide_true, decide_false, Bool.not_false, decide_eq_true_eq, decide_eq_false_iff_not, Bool.true_eq_false, Bool.false_eq_true, Option.some.injEq, exists_eq_left, exists_eq_left', R.d.injEq, D.int.injEq, D.bl.injEq, if_true, if_false, reduceIte, not_true_eq_false, not_false_eq_true, List.take_zero, List.take_succ_cons, and_self, Option.map_some, Bool.false_xor, Bool.and_self, Bool.true_and, Bool.and_true, Bool.true_xor, whole_eq, minus_eq (sz_big s1) (sz_big m.n), over_eq (sz_big s2) (sz_big m.t) m.ne, floor_eq s3 (by decide)]
  first | exact ⟨rfl, rfl⟩ | rfl
theorem new_eq {n : Int} (hn : n.natAbs < 2 ^ 1000) : F_new_of [.d (encQ new), .d (encQ turn), .d (.int n)] st = some (.d (encQ (mNew new turn n)), st) := by
  refine of_we ?_
  have s1 : Sz 1000 (n : Rat) := sz_int hn (by decide)
  have s2 := m.t.mul s1
  unfold F_new_of
  simp only [w_seq, KS_nx, KS_rt, KS_bk, KS_ct, w_next, w_set, w_setM, w_drop, w_ret, w_retN, w_brk, w_cnt, w_if, w_asg, w_parB, w_parC, w_N, w_N0, w_N1, w_NT, KF_nx, KF_rt, w_fun, fin_d, fin_fr, w_fin, WE_some, WT_some, WA_some, WI_some, WS_some, WV_d, WV_fr, WV_loc, WVT_d, WVT_fr, WB_bl, WF_fr, WG_some, WO_some, WO_ite, WO_map, w_var, w_C, w_op, w_un, w_test, w_chain, w_and, w_or, w_not, w_VT, w_ifE, w_A0, w_A1, w_call, w_blt, w_curs0, w_curs1, w_vals0, w_vals1, w_tup, w_lst, w_yes, WL_loc, w_app, w_pop, w_rev, w_put, w_getI, w_isi, w_p0, w_p1, w_sl, w_lstR, w_tupR, w_newK, w_newT, KL_nx, KL_ct, KL_bk, KL_rt, wipeE, clr_nil, clr_cons, c1_none, c1_d, c1_loc, WC_z, WC_s, lt_a1, lt_a2, lt_a3, st_take2, put_lst, put_dK, kit_bb, kit_ib, kit_ii, kit_sb, kit_si, kit_ss, kit_tb, kit_ti, kit_ts, kit_tt, ty_int, ty_bl, ty_str, ty_tup, add_int, add_str, add_tup, add_lst, sub_int, mul_int', mul_lst, fdiv_int, mod_int, pow_int, neg_int, lt_int', le_int', gt_int', ge_int', is_non, isn_non, is_bl, isn_bl, isNon_int, isNon_str, isNon_tup, isNon_bl, isNon_non, len_str, len_tup, len_lst, len_frl, len_dK, int_int, int_bl, abs_int, sum_lst, any_lst, all_lst, max2_int, min2_int, tuple_lst, tuple_tup, list_lst, list_tup, ix_tup, ix_lst, ix_frl, ix_frt, sl_tup, sl_lst, tg_d, tg_fr, tg_loc, cellV_lst, cellV_dK, cellV_dT, eq_int, ne_int, eq_bl, ne_bl, in_ints_tup, in_ints_lst, atI_0, atI_1, atI_2, atI_3, st_len, st_at, st_at1, st_set, st_set1, st_take, st_take1, st_all, st_lt, List.map_cons, List.map_nil, List.length_cons, List.length_nil, List.length_map, List.getElem?_cons_zero, List.getElem?_cons_succ, List.set_cons_zero, List.set_cons_succ, List.cons_append, List.nil_append, List.append_nil, List.replicate_succ, List.replicate_zero, List.append_assoc, Nat.reduceAdd, Nat.reduceSub, Nat.reduceLT, Nat.zero_add, Nat.add_zero, true_implies, false_implies, and_true, true_and, implies_true, List.length_set, take_set, List.getElem?_set_self, Bool.not_true, decide_true, decide_false, Bool.not_false, decide_eq_true_eq, decide_eq_false_iff_not, Bool.true_eq_false, Bool.false_eq_true, Option.some.injEq, exists_eq_left, exists_eq_left', R.d.injEq, D.int.injEq, D.bl.injEq, if_true, if_false, reduceIte, not_true_eq_false, not_false_eq_true, List.take_zero, List.take_succ_cons, and_self, Option.map_some, Bool.false_xor, Bool.and_self, Bool.true_and, Bool.and_true, Bool.true_xor, whole_eq, times_eq (sz_big m.t) (sz_big s1), plus_eq (sz_big m.n) (sz_big s2)]
  first | exact ⟨rfl, rfl⟩ | rfl
theorem sz_age (hd : d.natAbs < 2 ^ 300) : Sz 1903 (mAge new turn d) := by
  have s1 : Sz 300 (d : Rat) := sz_int hd (by decide)
  exact (s1.sub (sz_new m (Nat.lt_of_lt_of_le (sz_rnd m hd) (p2_mono (by decide))))).mono (by decide)
theorem age_eq (hd : d.natAbs < 2 ^ 300) : F_age_at [.d (encQ new), .d (encQ turn), .d (.int d)] st = some (.d (encQ (mAge new turn d)), st) := by
  refine of_we ?_
  have s1 : Sz 300 (d : Rat) := sz_int hd (by decide)
  have s2 := Nat.lt_of_lt_of_le (sz_rnd m hd) (p2_mono (show 901 ≤ 1000 by decide))
  unfold F_age_at
  simp only [w_seq, KS_nx, KS_rt, KS_bk, KS_ct, w_next, w_set, w_setM, w_drop, w_ret, w_retN, w_brk, w_cnt, w_if, w_asg, w_parB, w_parC, w_N, w_N0, w_N1, w_NT, KF_nx, KF_rt, w_fun, fin_d, fin_fr, w_fin, WE_some, WT_some, WA_some, WI_some, WS_some, WV_d, WV_fr, WV_loc, WVT_d, WVT_fr, WB_bl, WF_fr, WG_some, WO_some, WO_ite, WO_map, w_var, w_C, w_op, w_un, w_test, w_chain, w_and, w_or, w_not, w_VT, w_ifE, w_A0, w_A1, w_call, w_blt, w_curs0, w_curs1, w_vals0, w_vals1, w_tup, w_lst, w_yes, WL_loc, w_app, w_pop, w_rev, w_put, w_getI, w_isi, w_p0, w_p1, w_sl, w_lstR, w_tupR, w_newK, w_newT, KL_nx, KL_ct, KL_bk, KL_rt, wipeE, clr_nil, clr_cons, c1_none, c1_d, c1_loc, WC_z, WC_s, lt_a1, lt_a2, lt_a3, st_take2, put_lst, put_dK, kit_bb, kit_ib, kit_ii, kit_sb, kit_si, kit_ss, kit_tb, kit_ti, kit_ts, kit_tt, ty_int, ty_bl, ty_str, ty_tup, add_int, add_str, add_tup, add_lst, sub_int, mul_int', mul_lst, fdiv_int, mod_int, pow_int, neg_int, lt_int', le_int', gt_int', ge_int', is_non, isn_non, is_bl, isn_bl, isNon_int, isNon_str, isNon_tup, isNon_bl, isNon_non, len_str, len_tup, len_lst, len_frl, len_dK, int_int, int_bl, abs_int, sum_lst, any_lst, all_lst, max2_int, min2_int, tuple_lst, tuple_tup, list_lst, list_tup, ix_tup, ix_lst, ix_frl, ix_frt, sl_tup, sl_lst, tg_d, tg_fr, tg_loc, cellV_lst, cellV_dK, cellV_dT, eq_int, ne_int, eq_bl, ne_bl, in_ints_tup, in_ints_lst, atI_0, atI_1, atI_2, atI_3, st_len, st_at, st_at1, st_set, st_set1, st_take, st_take1, st_all, st_lt, List.map_cons, List.map_nil, List.length_cons, List.length_nil, List.length_map, List.getElem?_cons_zero, List.getElem?_cons_succ, List.set_cons_zero, List.set_cons_succ, List.cons_append, List.nil_append, List.append_nil, List.replicate_succ, List.replicate_zero, List.append_assoc, Nat.reduceAdd, Nat.reduceSub, Nat.reduceLT, Nat.zero_add, Nat.add_zero, true_implies, false_implies, and_true, true_and, implies_true, List.length_set, take_set, List.getElem?_set_self, Bool.not_true, decide_true, decide_false, Bool.not_false, decide_eq_true_eq, decide_eq_false_iff_not, Bool.true_eq_false, Bool.false_eq_true, Option.some.injEq, exists_eq_left, exists_eq_left', R.d.injEq, D.int.injEq, D.bl.injEq, if_true, if_false, reduceIte, not_true_eq_false, not_false_eq_true, List.take_zero, List.take_succ_cons, and_self, Option.map_some, Bool.false_xor, Bool.and_self, Bool.true_and, Bool.and_true, Bool.true_xor, whole_eq, rounds_eq m hd, new_eq m s2, minus_eq (sz_big s1) (sz_big (sz_new m s2))]
  first | exact ⟨rfl, rfl⟩ | rfl
theorem quarter_eq (hd : d.natAbs < 2 ^ 300) : F_quarter_at [.d (encQ new), .d (encQ turn), .d (.int d)] st = some (.d (.int (4 * mAge new turn d / turn).floor), st) := by
  refine of_we ?_
  have s1 := sz_age m hd
  have s2 := sz_4.mul s1
  have s3 := s2.div m.t m.ne
  unfold F_quarter_at
  simp only [fit0, fit1, fit2, fit3, fit4, fit5, fit6, fit7, fit8, fit9, fit10, fit11, fit12, fit13, fit14, fit15, fit16, fit17, fit18, fit19, fit20, fit21, fit22, fit23, fit24, fit25, fit26, fit27, fit28, fit29, fit30, tame_int, tame_bl, tame_non, tame_tup2, tames_nil, tames_cons, w_seq, KS_nx, KS_rt, KS_bk, KS_ct, w_next, w_set, w_setM, w_drop, w_ret, w_retN, w_brk, w_cnt, w_if, w_asg, w_parB, w_parC, w_N, w_N0, w_N1, w_NT, KF_nx, KF_rt, w_fun, fin_d, fin_fr, w_fin, WE_some, WT_some, WA_some, WI_some, WS_some, WV_d, WV_fr, WV_loc, WVT_d, WVT_fr, WB_bl, WF_fr, WG_some, WO_some, WO_ite, WO_map, w_var, w_C, w_op, w_un, w_test, w_chain, w_and, w_or, w_not, w_VT, w_ifE, w_A0, w_A1, w_call, w_blt, w_curs0, w_curs1, w_vals0, w_vals1, w_tup, w_lst, w_yes, WL_loc, w_app, w_pop, w_rev, w_put, w_getI, w_isi, w_p0, w_p1, w_sl, w_lstR, w_tupR, w_newK, w_newT, KL_nx, KL_ct, KL_bk, KL_rt, wipeE, clr_nil, clr_cons, c1_none, c1_d, c1_loc, WC_z, WC_s, lt_a1, lt_a2, lt_a3, st_take2, put_lst, put_dK, kit_bb, kit_ib, kit_ii, kit_sb, kit_si, kit_ss, kit_tb, kit_ti, kit_ts, kit_tt, ty_int, ty_bl, ty_str, ty_tup, add_int, add_str, add_tup, add_lst, sub_int, mul_int', mul_lst, fdiv_int, mod_int, pow_int, neg_int, lt_int', le_int', gt_int', ge_int', is_non, isn_non, is_bl, isn_bl, isNon_int, isNon_str, isNon_tup, isNon_bl, isNon_non, len_str, len_tup, len_lst, len_frl, len_dK, int_int, int_bl, abs_int, sum_lst, any_lst, all_lst, max2_int, min2_int, tuple_lst, tuple_tup, list_lst, list_tup, ix_tup, ix_lst, ix_frl, ix_frt, sl_tup, sl_lst, tg_d, tg_fr, tg_loc, cellV_lst, cellV_dK, cellV_dT, eq_int, ne_int, eq_bl, ne_bl, in_ints_tup, in_ints_lst, atI_0, atI_1, atI_2, atI_3, st_len, st_at, st_at1, st_set, st_set1, st_take, st_take1, st_all, st_lt, List.map_cons, List.map_nil, List.length_cons, List.length_nil, List.length_map, List.getElem?_cons_zero, List.getElem?_cons_succ, List.set_cons_zero, List.set_cons_succ, List.cons_append, List.nil_append, List.append_nil, List.replicate_succ, List.replicate_zero, List.append_assoc, Nat.reduceAdd, Nat.reduceSub, Nat.reduceLT, Nat.zero_add, Nat.add_zero, true_implies, false_implies, and_true, true_and, implies_true, List.length_set, take_set, List.getElem?_set_self, Bool.not_true, decide_true, decide_false, Bool.not_false, decide_eq_true_eq, decide_eq_false_iff_not, Bool.true_eq_false, Bool.false_eq_true, Option.some.injEq, exists_eq_left, exists_eq_left', R.d.injEq, D.int.injEq, D.bl.injEq, if_true, if_false, reduceIte, not_true_eq_false, not_false_eq_true, List.take_zero, List.take_succ_cons, and_self, Option.map_some, Bool.false_xor, Bool.and_self, Bool.true_and, Bool.and_true, Bool.true_xor, four_Q, age_eq m hd, times_eq (sz_big sz_4) (sz_big s1), over_eq (sz_big s2) (sz_big m.t) m.ne, floor_eq s3 (by decide)]
theorem nxt_eq (hd : d.natAbs < 2 ^ 300) : F_next_number [.d (encQ new), .d (encQ turn), .d (.int d)] st = some (.d (.int (mNxt new turn d)), st) := by
  refine of_we ?_
  have s2 := Nat.lt_of_lt_of_le (sz_rnd m hd) (p2_mono (show 901 ≤ 1000 by decide))
  unfold F_next_number
  simp only [fit0, fit1, fit2, fit3, fit4, fit5, fit6, fit7, fit8, fit9, fit10, fit11, fit12, fit13, fit14, fit15, fit16, fit17, fit18, fit19, fit20, fit21, fit22, fit23, fit24, fit25, fit26, fit27, fit28, fit29, fit30, tame_int, tame_bl, tame_non, tame_tup2, tames_nil, tames_cons, w_seq, KS_nx, KS_rt, KS_bk, KS_ct, w_next, w_set, w_setM, w_drop, w_ret, w_retN, w_brk, w_cnt, w_if, w_asg, w_parB, w_parC, w_N, w_N0, w_N1, w_NT, KF_nx, KF_rt, w_fun, fin_d, fin_fr, w_fin, WE_some, WT_some, WA_some, WI_some, WS_some, WV_d, WV_fr, WV_loc, WVT_d, WVT_fr, WB_bl, WF_fr, WG_some, WO_some, WO_ite, WO_map, w_var, w_C, w_op, w_un, w_test, w_chain, w_and, w_or, w_not, w_VT, w_ifE, w_A0, w_A1, w_call, w_blt, w_curs0, w_curs1, w_vals0, w_vals1, w_tup, w_lst, w_yes, WL_loc, w_app, w_pop, w_rev, w_put, w_getI, w_isi, w_p0, w_p1, w_sl, w_lstR, w_tupR, w_newK, w_newT, KL_nx, KL_ct, KL_bk, KL_rt, wipeE, clr_nil, clr_cons, c1_none, c1_d, c1_loc, WC_z, WC_s, lt_a1, lt_a2, lt_a3, st_take2, put_lst, put_dK, kit_bb, kit_ib, kit_ii, kit_sb, kit_si, kit_ss, kit_tb, kit_ti, kit_ts, kit_tt, ty_int, ty_bl, ty_str, ty_tup, add_int, add_str, add_tup, add_lst, sub_int, mul_int', mul_lst, fdiv_int, mod_int, pow_int, neg_int, lt_int', le_int', gt_int', ge_int', is_non, isn_non, is_bl, isn_bl, isNon_int, isNon_str, isNon_tup, isNon_bl, isNon_non, len_str, len_tup, len_lst, len_frl, len_dK, int_int, int_bl, abs_int, sum_lst, any_lst, all_lst, max2_int, min2_int, tuple_lst, tuple_tup, list_lst, list_tup, ix_tup, ix_lst, ix_frl, ix_frt, sl_tup, sl_lst, tg_d, tg_fr, tg_loc, cellV_lst, cellV_dK, cellV_dT, eq_int, ne_int, eq_bl, ne_bl, in_ints_tup, in_ints_lst, atI_0, atI_1, atI_2, atI_3, st_len, st_at, st_at1, st_set, st_set1, st_take, st_take1, st_all, st_lt, List.map_cons, List.map_nil, List.length_cons, List.length_nil, List.length_map, List.getElem?_cons_zero, List.getElem?_cons_succ, List.set_cons_zero, List.set_cons_succ, List.cons_append, List.nil_append, List.append_nil, List.replicate_succ, List.replicate_zero, List.append_assoc, Nat.reduceAdd, Nat.reduceSub, Nat.reduceLT, Nat.zero_add, Nat.add_zero, true_implies, false_implies, and_true, true_and, implies_true, List.length_set, take_set, List.getElem?_set_self, Bool.not_true, decide_true, decide_false, Bool.not_false, decide_eq_true_eq, decide_eq_false_iff_not, Bool.true_eq_false, Bool.false_eq_true, Option.some.injEq, exists_eq_left, exists_eq_left', R.d.injEq, D.int.injEq, D.bl.injEq, if_true, if_false, reduceIte, not_true_eq_false, not_false_eq_true, List.take_zero, List.take_succ_cons, and_self, Option.map_some, Bool.false_xor, Bool.and_self, Bool.true_and, Bool.and_true, Bool.true_xor, whole_eq, rounds_eq m hd, new_eq m s2, eq_Q]
  unfold mNxt
  exact ⟨fun h => by rw [if_pos h], fun h => by rw [if_neg h]⟩
theorem sz_nxt (hd : d.natAbs < 2 ^ 300) : (mNxt new turn d).natAbs < 2 ^ 902 := by
  have := sz_rnd m hd
  unfold mNxt
  split
  · exact Nat.lt_trans this (Nat.pow_lt_pow_right (by decide) (by decide))
  · exact iadd_sz this (by decide +kernel)
theorem next_new_eq (hd : d.natAbs < 2 ^ 300) : F_next_new [.d (encQ new), .d (encQ turn), .d (.int d)] st = some (.d (encQ (mNew new turn (mNxt new turn d))), st) := by
  refine of_we ?_
  have s2 := Nat.lt_of_lt_of_le (sz_nxt m hd) (p2_mono (show 902 ≤ 1000 by decide))
  unfold F_next_new
  simp only [fit0, fit1, fit2, fit3, fit4, fit5, fit6, fit7, fit8, fit9, fit10, fit11, fit12, fit13, fit14, fit15, fit16, fit17, fit18, fit19, fit20, fit21, fit22, fit23, fit24, fit25, fit26, fit27, fit28, fit29, fit30, tame_int, tame_bl, tame_non, tame_tup2, tames_nil, tames_cons, w_seq, KS_nx, KS_rt, KS_bk, KS_ct, w_next, w_set, w_setM, w_drop, w_ret, w_retN, w_brk, w_cnt, w_if, w_asg, w_parB, w_parC, w_N, w_N0, w_N1, w_NT, KF_nx, KF_rt, w_fun, fin_d, fin_fr, w_fin, WE_some, WT_some, WA_some, WI_some, WS_some, WV_d, WV_fr, WV_loc, WVT_d, WVT_fr, WB_bl, WF_fr, WG_some, WO_some, WO_ite, WO_map, w_var, w_C, w_op, w_un, w_test, w_chain, w_and, w_or, w_not, w_VT, w_ifE, w_A0, w_A1, w_call, w_blt, w_curs0, w_curs1, w_vals0, w_vals1, w_tup, w_lst, w_yes, WL_loc, w_app, w_pop, w_rev, w_put, w_getI, w_isi, w_p0, w_p1, w_sl, w_lstR, w_tupR, w_newK, w_newT, KL_nx, KL_ct, KL_bk, KL_rt, wipeE, clr_nil, clr_cons, c1_none, c1_d, c1_loc, WC_z, WC_s, lt_a1, lt_a2, lt_a3, st_take2, put_lst, put_dK, kit_bb, kit_ib, kit_ii, kit_sb, kit_si, kit_ss, kit_tb, kit_ti, kit_ts, kit_tt, ty_int, ty_bl, ty_str, ty_tup, add_int, add_str, add_tup, add_lst, sub_int, mul_int', mul_lst, fdiv_int, mod_int, pow_int, neg_int, lt_int', le_int', gt_int', ge_int', is_non, isn_non, is_bl, isn_bl, isNon_int, isNon_str, isNon_tup, isNon_bl, isNon_non, len_str, len_tup, len_lst, len_frl, len_dK, int_int, int_bl, abs_int, sum_lst, any_lst, all_lst, max2_int, min2_int, tuple_lst, tuple_tup, list_lst, list_tup, ix_tup, ix_lst, ix_frl, ix_frt, sl_tup, sl_lst, tg_d, tg_fr, tg_loc, cellV_lst, cellV_dK, cellV_dT, eq_int, ne_int, eq_bl, ne_bl, in_ints_tup, in_ints_lst, atI_0, atI_1, atI_2, atI_3, st_len, st_at, st_at1, st_set, st_set1, st_take, st_take1, st_all, st_lt, List.map_cons, List.map_nil, List.length_cons, List.length_nil, List.length_map, List.getElem?_cons_zero, List.getElem?_cons_succ, List.set_cons_zero, List.set_cons_succ, List.cons_append, List.nil_append, List.append_nil, List.replicate_succ, List.replicate_zero, List.append_assoc, Nat.reduceAdd, Nat.reduceSub, Nat.reduceLT, Nat.zero_add, Nat.add_zero, true_implies, false_implies, and_true, true_and, implies_true, List.length_set, take_set, List.getElem?_set_self, Bool.not_true, decide_true, decide_false, Bool.not_false, decide_eq_true_eq, decide_eq_false_iff_not, Bool.true_eq_false, Bool.false_eq_true, Option.some.injEq, exists_eq_left, exists_eq_left', R.d.injEq, D.int.injEq, D.bl.injEq, if_true, if_false, reduceIte, not_true_eq_false, not_false_eq_true, List.take_zero, List.take_succ_cons, and_self, Option.map_some, Bool.false_xor, Bool.and_self, Bool.true_and, Bool.and_true, Bool.true_xor, nxt_eq m hd, new_eq m s2]
theorem same_age_eq {e : Int} (hd : d.natAbs < 2 ^ 300) (he : e.natAbs < 2 ^ 300) : F_same_age [.d (encQ new), .d (encQ turn), .d (.int d), .d (.int e)] st = some (.d (.bl (decide (mAge new turn d = mAge new turn e))), st) := by
  refine of_we ?_
  unfold F_same_age
  simp only [fit0, fit1, fit2, fit3, fit4, fit5, fit6, fit7, fit8, fit9, fit10, fit11, fit12, fit13, fit14, fit15, fit16, fit17, fit18, fit19, fit20, fit21, fit22, fit23, fit24, fit25, fit26, fit27, fit28, fit29, fit30, tame_int, tame_bl, tame_non, tame_tup2, tames_nil, tames_cons, w_seq, KS_nx, KS_rt, KS_bk, KS_ct, w_next, w_set, w_setM, w_drop, w_ret, w_retN, w_brk, w_cnt, w_if, w_asg, w_parB, w_parC, w_N, w_N0, w_N1, w_NT, KF_nx, KF_rt, w_fun, fin_d, fin_fr, w_fin, WE_some, WT_some, WA_some, WI_some, WS_some, WV_d, WV_fr, WV_loc, WVT_d, WVT_fr, WB_bl, WF_fr, WG_some, WO_some, WO_ite, WO_map, w_var, w_C, w_op, w_un, w_test, w_chain, w_and, w_or, w_not, w_VT, w_ifE, w_A0, w_A1, w_call, w_blt, w_curs0, w_curs1, w_vals0, w_vals1, w_tup, w_lst, w_yes, WL_loc, w_app, w_pop, w_rev, w_put, w_getI, w_isi, w_p0, w_p1, w_sl, w_lstR, w_tupR, w_newK, w_newT, KL_nx, KL_ct, KL_bk, KL_rt, wipeE, clr_nil, clr_cons, c1_none, c1_d, c1_loc, WC_z, WC_s, lt_a1, lt_a2, lt_a3, st_take2, put_lst, put_dK, kit_bb, kit_ib, kit_ii, kit_sb, kit_si, kit_ss, kit_tb, kit_ti, kit_ts, kit_tt, ty_int, ty_bl, ty_str, ty_tup, add_int, add_str, add_tup, add_lst, sub_int, mul_int', mul_lst, fdiv_int, mod_int, pow_int, neg_int, lt_int', le_int', gt_int', ge_int', is_non, isn_non, is_bl, isn_bl, isNon_int, isNon_str, isNon_tup, isNon_bl, isNon_non, len_str, len_tup, len_lst, len_frl, len_dK, int_int, int_bl, abs_int, sum_lst, any_lst, all_lst, max2_int, min2_int, tuple_lst, tuple_tup, list_lst, list_tup, ix_tup, ix_lst, ix_frl, ix_frt, sl_tup, sl_lst, tg_d, tg_fr, tg_loc, cellV_lst, cellV_dK, cellV_dT, eq_int, ne_int, eq_bl, ne_bl, in_ints_tup, in_ints_lst, atI_0, atI_1, atI_2, atI_3, st_len, st_at, st_at1, st_set, st_set1, st_take, st_take1, st_all, st_lt, List.map_cons, List.map_nil, List.length_cons, List.length_nil, List.length_map, List.getElem?_cons_zero, List.getElem?_cons_succ, List.set_cons_zero, List.set_cons_succ, List.cons_append, List.nil_append, List.append_nil, List.replicate_succ, List.replicate_zero, List.append_assoc, Nat.reduceAdd, Nat.reduceSub, Nat.reduceLT, Nat.zero_add, Nat.add_zero, true_implies, false_implies, and_true, true_and, implies_true, List.length_set, take_set, List.getElem?_set_self, Bool.not_true, decide_true, decide_false, Bool.not_false, decide_eq_true_eq, decide_eq_false_iff_not, Bool.true_eq_false, Bool.false_eq_true, Option.some.injEq, exists_eq_left, exists_eq_left', R.d.injEq, D.int.injEq, D.bl.injEq, if_true, if_false, reduceIte, not_true_eq_false, not_false_eq_true, List.take_zero, List.take_succ_cons, and_self, Option.map_some, Bool.false_xor, Bool.and_self, Bool.true_and, Bool.and_true, Bool.true_xor, age_eq m hd, age_eq m he, eq_Q]
theorem between_eq {e : Int} (hd : d.natAbs < 2 ^ 300) (he : e.natAbs < 2 ^ 300) : F_moons_between [.d (encQ new), .d (encQ turn), .d (.int d), .d (.int e)] st = some (.d (.int (max (mNxt new turn e - mNxt new turn d) 0)), st) := by
  refine of_we ?_
  unfold F_moons_between
  simp only [fit0, fit1, fit2, fit3, fit4, fit5, fit6, fit7, fit8, fit9, fit10, fit11, fit12, fit13, fit14, fit15, fit16, fit17, fit18, fit19, fit20, fit21, fit22, fit23, fit24, fit25, fit26, fit27, fit28, fit29, fit30, tame_int, tame_bl, tame_non, tame_tup2, tames_nil, tames_cons, w_seq, KS_nx, KS_rt, KS_bk, KS_ct, w_next, w_set, w_setM, w_drop, w_ret, w_retN, w_brk, w_cnt, w_if, w_asg, w_parB, w_parC, w_N, w_N0, w_N1, w_NT, KF_nx, KF_rt, w_fun, fin_d, fin_fr, w_fin, WE_some, WT_some, WA_some, WI_some, WS_some, WV_d, WV_fr, WV_loc, WVT_d, WVT_fr, WB_bl, WF_fr, WG_some, WO_some, WO_ite, WO_map, w_var, w_C, w_op, w_un, w_test, w_chain, w_and, w_or, w_not, w_VT, w_ifE, w_A0, w_A1, w_call, w_blt, w_curs0, w_curs1, w_vals0, w_vals1, w_tup, w_lst, w_yes, WL_loc, w_app, w_pop, w_rev, w_put, w_getI, w_isi, w_p0, w_p1, w_sl, w_lstR, w_tupR, w_newK, w_newT, KL_nx, KL_ct, KL_bk, KL_rt, wipeE, clr_nil, clr_cons, c1_none, c1_d, c1_loc, WC_z, WC_s, lt_a1, lt_a2, lt_a3, st_take2, put_lst, put_dK, kit_bb, kit_ib, kit_ii, kit_sb, kit_si, kit_ss, kit_tb, kit_ti, kit_ts, kit_tt, ty_int, ty_bl, ty_str, ty_tup, add_int, add_str, add_tup, add_lst, sub_int, mul_int', mul_lst, fdiv_int, mod_int, pow_int, neg_int, lt_int', le_int', gt_int', ge_int', is_non, isn_non, is_bl, isn_bl, isNon_int, isNon_str, isNon_tup, isNon_bl, isNon_non, len_str, len_tup, len_lst, len_frl, len_dK, int_int, int_bl, abs_int, sum_lst, any_lst, all_lst, max2_int, min2_int, tuple_lst, tuple_tup, list_lst, list_tup, ix_tup, ix_lst, ix_frl, ix_frt, sl_tup, sl_lst, tg_d, tg_fr, tg_loc, cellV_lst, cellV_dK, cellV_dT, eq_int, ne_int, eq_bl, ne_bl, in_ints_tup, in_ints_lst, atI_0, atI_1, atI_2, atI_3, st_len, st_at, st_at1, st_set, st_set1, st_take, st_take1, st_all, st_lt, List.map_cons, List.map_nil, List.length_cons, List.length_nil, List.length_map, List.getElem?_cons_zero, List.getElem?_cons_succ, List.set_cons_zero, List.set_cons_succ, List.cons_append, List.nil_append, List.append_nil, List.replicate_succ, List.replicate_zero, List.append_assoc, Nat.reduceAdd, Nat.reduceSub, Nat.reduceLT, Nat.zero_add, Nat.add_zero, true_implies, false_implies, and_true, true_and, implies_true, List.length_set, take_set, List.getElem?_set_self, Bool.not_true, decide_true, decide_false, Bool.not_false, decide_eq_true_eq, decide_eq_false_iff_not, Bool.true_eq_false, Bool.false_eq_true, Option.some.injEq, exists_eq_left, exists_eq_left', R.d.injEq, D.int.injEq, D.bl.injEq, if_true, if_false, reduceIte, not_true_eq_false, not_false_eq_true, List.take_zero, List.take_succ_cons, and_self, Option.map_some, Bool.false_xor, Bool.and_self, Bool.true_and, Bool.and_true, Bool.true_xor, nxt_eq m hd, nxt_eq m he]
end
theorem minus_frt {b : Rat} {st : Sto} (hb : Sz 2000 b) : F_minus_of [.d (.frt [.int 1, .int 2]), .d (encQ b)] st = some (.d (encQ (1 / 2 - b)), st) := by
  refine of_we ?_
  have ha : Sz 2000 (1 / 2 : Rat) := sz_big sz_half
  obtain ⟨m1, m2, m3, m4, m5⟩ := nd_ok ha hb
  obtain ⟨d1, d2⟩ := dd_sz ha hb
  have e := sub_div (1 / 2) b
  simp only [half_n, half_d] at m1 m2 m3 m4 m5 d1 d2 e
  have m1' : mulOk 1 (b.den : Int) := m1
  have m2' : mulOk b.num 2 := m2
  have m3' : mulOk 2 (b.den : Int) := m3
  have d1' : ((2 : Int) * b.den).natAbs < 2 ^ 4000 := d1
  have d2' : (2 : Int) * b.den ≠ 0 := d2
  have e' : Rat.divInt (1 * b.den - b.num * 2) ((2 : Int) * b.den) = 1 / 2 - b := e
  unfold F_minus_of
  simp only [fit0, fit1, fit2, fit3, fit4, fit5, fit6, fit7, fit8, fit9, fit10, fit11, fit12, fit13, fit14, fit15, fit16, fit17, fit18, fit19, fit20, fit21, fit22, fit23, fit24, fit25, fit26, fit27, fit28, fit29, fit30, tame_int, tame_bl, tame_non, tame_tup2, tames_nil, tames_cons, w_seq, KS_nx, KS_rt, KS_bk, KS_ct, w_next, w_set, w_setM, w_drop, w_ret, w_retN, w_brk, w_cnt, w_if, w_asg, w_parB, w_parC, w_N, w_N0, w_N1, w_NT, KF_nx, KF_rt, w_fun, fin_d, fin_fr, w_fin, WE_some, WT_some, WA_some, WI_some, WS_some, WV_d, WV_fr, WV_loc, WVT_d, WVT_fr, WB_bl, WF_fr, WG_some, WO_some, WO_ite, WO_map, w_var, w_C, w_op, w_un, w_test, w_chain, w_and, w_or, w_not, w_VT, w_ifE, w_A0, w_A1, w_call, w_blt, w_curs0, w_curs1, w_vals0, w_vals1, w_tup, w_lst, w_yes, WL_loc, w_app, w_pop, w_rev, w_put, w_getI, w_isi, w_p0, w_p1, w_sl, w_lstR, w_tupR, w_newK, w_newT, KL_nx, KL_ct, KL_bk, KL_rt, wipeE, clr_nil, clr_cons, c1_none, c1_d, c1_loc, WC_z, WC_s, lt_a1, lt_a2, lt_a3, st_take2, put_lst, put_dK, kit_bb, kit_ib, kit_ii, kit_sb, kit_si, kit_ss, kit_tb, kit_ti, kit_ts, kit_tt, ty_int, ty_bl, ty_str, ty_tup, add_int, add_str, add_tup, add_lst, sub_int, mul_int', mul_lst, fdiv_int, mod_int, pow_int, neg_int, lt_int', le_int', gt_int', ge_int', is_non, isn_non, is_bl, isn_bl, isNon_int, isNon_str, isNon_tup, isNon_bl, isNon_non, len_str, len_tup, len_lst, len_frl, len_dK, int_int, int_bl, abs_int, sum_lst, any_lst, all_lst, max2_int, min2_int, tuple_lst, tuple_tup, list_lst, list_tup, ix_tup, ix_lst, ix_frl, ix_frt, sl_tup, sl_lst, tg_d, tg_fr, tg_loc, cellV_lst, cellV_dK, cellV_dT, eq_int, ne_int, eq_bl, ne_bl, in_ints_tup, in_ints_lst, atI_0, atI_1, atI_2, atI_3, st_len, st_at, st_at1, st_set, st_set1, st_take, st_take1, st_all, st_lt, List.map_cons, List.map_nil, List.length_cons, List.length_nil, List.length_map, List.getElem?_cons_zero, List.getElem?_cons_succ, List.set_cons_zero, List.set_cons_succ, List.cons_append, List.nil_append, List.append_nil, List.replicate_succ, List.replicate_zero, List.append_assoc, Nat.reduceAdd, Nat.reduceSub, Nat.reduceLT, Nat.zero_add, Nat.add_zero, true_implies, false_implies, and_true, true_and, implies_true, List.length_set, take_set, List.getElem?_set_self, Bool.not_true, decide_true, decide_false, Bool.not_false, decide_eq_true_eq, decide_eq_false_iff_not, Bool.true_eq_false, Bool.false_eq_true, Option.some.injEq, exists_eq_left, exists_eq_left', R.d.injEq, D.int.injEq, D.bl.injEq, if_true, if_false, reduceIte, not_true_eq_false, not_false_eq_true, List.take_zero, List.take_succ_cons, and_self, Option.map_some, Bool.false_xor, Bool.and_self, Bool.true_and, Bool.and_true, Bool.true_xor, ix_Q0, ix_Q1, m1', m2', m3', fraction_eq d2' d1' (by decide), e']
theorem nearest_eq {t : Rat} {st : Sto} (ht : Sz 2000 t) : F_nearest_day [.d (encQ t)] st = some (.d (.int (mNear t)), st) := by
  refine of_we ?_
  have s1 : Sz 2011 (1 / 2 - t) := sz_half.sub ht
  unfold F_nearest_day
  simp only [fit0, fit1, fit2, fit3, fit4, fit5, fit6, fit7, fit8, fit9, fit10, fit11, fit12, fit13, fit14, fit15, fit16, fit17, fit18, fit19, fit20, fit21, fit22, fit23, fit24, fit25, fit26, fit27, fit28, fit29, fit30, tame_int, tame_bl, tame_non, tame_tup2, tames_nil, tames_cons, w_seq, KS_nx, KS_rt, KS_bk, KS_ct, w_next, w_set, w_setM, w_drop, w_ret, w_retN, w_brk, w_cnt, w_if, w_asg, w_parB, w_parC, w_N, w_N0, w_N1, w_NT, KF_nx, KF_rt, w_fun, fin_d, fin_fr, w_fin, WE_some, WT_some, WA_some, WI_some, WS_some, WV_d, WV_fr, WV_loc, WVT_d, WVT_fr, WB_bl, WF_fr, WG_some, WO_some, WO_ite, WO_map, w_var, w_C, w_op, w_un, w_test, w_chain, w_and, w_or, w_not, w_VT, w_ifE, w_A0, w_A1, w_call, w_blt, w_curs0, w_curs1, w_vals0, w_vals1, w_tup, w_lst, w_yes, WL_loc, w_app, w_pop, w_rev, w_put, w_getI, w_isi, w_p0, w_p1, w_sl, w_lstR, w_tupR, w_newK, w_newT, KL_nx, KL_ct, KL_bk, KL_rt, wipeE, clr_nil, clr_cons, c1_none, c1_d, c1_loc, WC_z, WC_s, lt_a1, lt_a2, lt_a3, st_take2, put_lst, put_dK, kit_bb, kit_ib, kit_ii, kit_sb, kit_si, kit_ss, kit_tb, kit_ti, kit_ts, kit_tt, ty_int, ty_bl, ty_str, ty_tup, add_int, add_str, add_tup, add_lst, sub_int, mul_int', mul_lst, fdiv_int, mod_int, pow_int, neg_int, lt_int', le_int', gt_int', ge_int', is_non, isn_non, is_bl, isn_bl, isNon_int, isNon_str, isNon_tup, isNon_bl, isNon_non, len_str, len_tup, len_lst, len_frl, len_dK, int_int, int_bl, abs_int, sum_lst, any_lst, all_lst, max2_int, min2_int, tuple_lst, tuple_tup, list_lst, list_tup, ix_tup, ix_lst, ix_frl, ix_frt, sl_tup, sl_lst, tg_d, tg_fr, tg_loc, cellV_lst, cellV_dK, cellV_dT, eq_int, ne_int, eq_bl, ne_bl, in_ints_tup, in_ints_lst, atI_0, atI_1, atI_2, atI_3, st_len, st_at, st_at1, st_set, st_set1, st_take, st_take1, st_all, st_lt, List.map_cons, List.map_nil, List.length_cons, List.length_nil, List.length_map, List.getElem?_cons_zero, List.getElem?_cons_succ, List.set_cons_zero, List.set_cons_succ, List.cons_append, List.nil_append, List.append_nil, List.replicate_succ, List.replicate_zero, List.append_assoc, Nat.reduceAdd, Nat.reduceSub, Nat.reduceLT, Nat.zero_add, Nat.add_zero, true_implies, false_implies, and_true, true_and, implies_true, List.length_set, take_set, List.getElem?_set_self, Bool.not_true, decide_true, decide_false, Bool.not_false, decide_eq_true_eq, decide_eq_false_iff_not, Bool.true_eq_false, Bool.false_eq_true, Option.some.injEq, exists_eq_left, exists_eq_left', R.d.injEq, D.int.injEq, D.bl.injEq, if_true, if_false, reduceIte, not_true_eq_false, not_false_eq_true, List.take_zero, List.take_succ_cons, and_self, Option.map_some, Bool.false_xor, Bool.and_self, Bool.true_and, Bool.and_true, Bool.true_xor, minus_frt ht, floor_eq s1 (by decide)]
  first | exact ⟨rfl, rfl⟩ | rfl
theorem halves_Q {h : Int} : Rat.divInt h 2 = (h : Rat) / 2 := by rw [Rat.divInt_eq_div]; rfl
theorem sz_halves {h : Int} (hh : h.natAbs < 2 ^ 1000) : Sz 1000 ((h : Rat) / 2) := by
  rw [← halves_Q]
  exact sz_div hh (by decide +kernel) (by decide)
theorem spring_after_eq {new turn : Rat} {h : Int} {st : Sto} (m : Mo new turn) (hh : h.natAbs < 2 ^ 1000) : F_spring_after [.d (encQ new), .d (encQ turn), .d (encQ ((h : Rat) / 2))] st = some (.d (.int (mNear (mHalf new turn h))), st) := by
  refine of_we ?_
  have s1 := sz_halves hh
  have s2 := s1.mul m.t
  have s3 := m.n.add s2
  have e : new + (h : Rat) / 2 * turn = mHalf new turn h := by unfold mHalf; grind
  rw [e] at s3
  unfold F_spring_after
  simp only [fit0, fit1, fit2, fit3, fit4, fit5, fit6, fit7, fit8, fit9, fit10, fit11, fit12, fit13, fit14, fit15, fit16, fit17, fit18, fit19, fit20, fit21, fit22, fit23, fit24, fit25, fit26, fit27, fit28, fit29, fit30, tame_int, tame_bl, tame_non, tame_tup2, tames_nil, tames_cons, w_seq, KS_nx, KS_rt, KS_bk, KS_ct, w_next, w_set, w_setM, w_drop, w_ret, w_retN, w_brk, w_cnt, w_if, w_asg, w_parB, w_parC, w_N, w_N0, w_N1, w_NT, KF_nx, KF_rt, w_fun, fin_d, fin_fr, w_fin, WE_some, WT_some, WA_some, WI_some, WS_some, WV_d, WV_fr, WV_loc, WVT_d, WVT_fr, WB_bl, WF_fr, WG_some, WO_some, WO_ite, WO_map, w_var, w_C, w_op, w_un, w_test, w_chain, w_and, w_or, w_not, w_VT, w_ifE, w_A0, w_A1, w_call, w_blt, w_curs0, w_curs1, w_vals0, w_vals1, w_tup, w_lst, w_yes, WL_loc, w_app, w_pop, w_rev, w_put, w_getI, w_isi, w_p0, w_p1, w_sl, w_lstR, w_tupR, w_newK, w_newT, KL_nx, KL_ct, KL_bk, KL_rt, wipeE, clr_nil, clr_cons, c1_none, c1_d, c1_loc, WC_z, WC_s, lt_a1, lt_a2, lt_a3, st_take2, put_lst, put_dK, kit_bb, kit_ib, kit_ii, kit_sb, kit_si, kit_ss, kit_tb, kit_ti, kit_ts, kit_tt, ty_int, ty_bl, ty_str, ty_tup, add_int, add_str, add_tup, add_lst, sub_int, mul_int', mul_lst, fdiv_int, mod_int, pow_int, neg_int, lt_int', le_int', gt_int', ge_int', is_non, isn_non, is_bl, isn_bl, isNon_int, isNon_str, isNon_tup, isNon_bl, isNon_non, len_str, len_tup, len_lst, len_frl, len_dK, int_int, int_bl, abs_int, sum_lst, any_lst, all_lst, max2_int, min2_int, tuple_lst, tuple_tup, list_lst, list_tup, ix_tup, ix_lst, ix_frl, ix_frt, sl_tup, sl_lst, tg_d, tg_fr, tg_loc, cellV_lst, cellV_dK, cellV_dT, eq_int, ne_int, eq_bl, ne_bl, in_ints_tup, in_ints_lst, atI_0, atI_1, atI_2, atI_3, st_len, st_at, st_at1, st_set, st_set1, st_take, st_take1, st_all, st_lt, List.map_cons, List.map_nil, List.length_cons, List.length_nil, List.length_map, List.getElem?_cons_zero, List.getElem?_cons_succ, List.set_cons_zero, List.set_cons_succ, List.cons_append, List.nil_append, List.append_nil, List.replicate_succ, List.replicate_zero, List.append_assoc, Nat.reduceAdd, Nat.reduceSub, Nat.reduceLT, Nat.zero_add, Nat.add_zero, true_implies, false_implies, and_true, true_and, implies_true, List.length_set, take_set, List.getElem?_set_self, Bool.not_true, decide_true, decide_false, Bool.not_false, decide_eq_true_eq, decide_eq_false_iff_not, Bool.true_eq_false, Bool.false_eq_true, Option.some.injEq, exists_eq_left, exists_eq_left', R.d.injEq, D.int.injEq, D.bl.injEq, if_true, if_false, reduceIte, not_true_eq_false, not_false_eq_true, List.take_zero, List.take_succ_cons, and_self, Option.map_some, Bool.false_xor, Bool.and_self, Bool.true_and, Bool.and_true, Bool.true_xor, times_eq (sz_big s1) (sz_big m.t), plus_eq (sz_big m.n) (sz_big s2), e, nearest_eq (sz_big s3)]
end K92

set_option Elab.async false
set_option linter.all false
set_option maxRecDepth 100000
set_option maxHeartbeats 4000000
namespace K92
open PySem DL
open L2 (atI)
theorem two_cast : ((2 : Int) : Rat) = 2 := rfl
theorem lt2 {n : Int} {k j : Nat} (h : n.natAbs < 2 ^ k) (hk : k ≤ j := by decide) : n.natAbs < 2 ^ j := Nat.lt_of_lt_of_le h (p2_mono hk)
theorem p300 : (2 : Nat) ^ 300 ≤ 2 ^ 901 ∧ 1000000 < (2 : Nat) ^ 300 ∧ (2 : Nat) ^ 902 = 2 * 2 ^ 901 ∧ 2 ^ 903 = 2 * 2 ^ 902 ∧ (2 : Nat) ^ 904 = 2 * 2 ^ 903 ∧ (2 : Nat) ^ 904 ≤ 2 ^ 1000 := by decide +kernel
section
variable {new turn : Rat} {b e : Int} {st : Sto} (m : Mo new turn)
include m
theorem spring_eq (hb : b.natAbs < 2 ^ 300) (hbe : b ≤ e) (hz : e - b < 1000) : F_spring_days [.d (encQ new), .d (encQ turn), .d (.int b), .d (.int e)] st = some (.d (.tup (((daysIn b e).filter (mSpr new turn)).map D.int)), st) := by
  refine of_we ?_
  have r1 := sz_rnd m hb
  obtain ⟨p1, p2, p3, p4, p5, p6⟩ := p300
  have hcnt := fun h => half_count (new := new) m.one (b := b) (e := e) (h := h)
  have hfst := fun h => half_first (new := new) m.one (b := b) (h := h)
  have hspr := fun d => spr_iff m.pos (new := new) (d := d)
  have sz : ∀ h : Int, 2 * mRnd new turn b - 2 ≤ h → h ≤ 2 * mRnd new turn b - 2 + (2 * (e - b) + 5) → h.natAbs < 2 ^ 1000 := fun h h1 h2 => by omega
  have frac : ∀ (h : Int) (st : Sto), F_fraction [.d (.int h), .d (.int 2)] st = some (.d (encQ ((h : Rat) / 2)), st) := fun h st => by
    rw [fraction_eq (k := 2) (by decide) (by decide) (by decide), halves_Q]
  unfold F_spring_days
  simp only [w_seq, KS_nx, KS_rt, KS_bk, KS_ct, w_next, w_set, w_setM, w_drop, w_ret, w_retN, w_brk, w_cnt, w_if, w_asg, w_parB, w_parC, w_N, w_N0, w_N1, w_NT, KF_nx, KF_rt, w_fun, fin_d, fin_fr, w_fin, WE_some, WT_some, WA_some, WI_some, WS_some, WV_d, WV_fr, WV_loc, WVT_d, WVT_fr, WB_bl, WF_fr, WG_some, WO_some, WO_ite, WO_map, w_var, w_C, w_op, w_un, w_test, w_chain, w_and, w_or, w_not, w_VT, w_ifE, w_A0, w_A1, w_call, w_blt, w_curs0, w_curs1, w_vals0, w_vals1, w_tup, w_lst, w_yes, WL_loc, w_app, w_pop, w_rev, w_put, w_getI, w_isi, w_p0, w_p1, w_sl, w_lstR, w_tupR, w_newK, w_newT, KL_nx, KL_ct, KL_bk, KL_rt, wipeE, clr_nil, clr_cons, c1_none, c1_d, c1_loc, WC_z, WC_s, lt_a1, lt_a2, lt_a3, st_take2, put_lst, put_dK, kit_bb, kit_ib, kit_ii, kit_sb, kit_si, kit_ss, kit_tb, kit_ti, kit_ts, kit_tt, ty_int, ty_bl, ty_str, ty_tup, add_int, add_str, add_tup, add_lst, sub_int, mul_int', mul_lst, fdiv_int, mod_int, pow_int, neg_int, lt_int', le_int', gt_int', ge_int', is_non, isn_non, is_bl, isn_bl, isNon_int, isNon_str, isNon_tup, isNon_bl, isNon_non, len_str, len_tup, len_lst, len_frl, len_dK, int_int, int_bl, abs_int, sum_lst, any_lst, all_lst, max2_int, min2_int, tuple_lst, tuple_tup, list_lst, list_tup, ix_tup, ix_lst, ix_frl, ix_frt, sl_tup, sl_lst, tg_d, tg_fr, tg_loc, cellV_lst, cellV_dK, cellV_dT, eq_int, ne_int, eq_bl, ne_bl, in_ints_tup, in_ints_lst, atI_0, atI_1, atI_2, atI_3, st_len, st_at, st_at1, st_set, st_set1, st_take, st_take1, st_all, st_lt, List.map_cons, List.map_nil, List.length_cons, List.length_nil, List.length_map, List.getElem?_cons_zero, List.getElem?_cons_succ, List.set_cons_zero, List.set_cons_succ, List.cons_append, List.nil_append, List.append_nil, List.replicate_succ, List.replicate_zero, List.append_assoc, Nat.reduceAdd, Nat.reduceSub, Nat.reduceLT, Nat.zero_add, Nat.add_zero, true_implies, false_implies, and_true, true_and, implies_true, List.length_set, take_set, List.getElem?_set_self, Bool.not_true, decide_true, decide_false, Bool.not_false, decide_eq_true_eq, decide_eq_false_iff_not, Bool.true_eq_false, Bool.false_eq_true, Option.some.injEq, exists_eq_left, exists_eq_left', R.d.injEq, D.int.injEq, D.bl.injEq, if_true, if_false, reduceIte, not_true_eq_false, not_false_eq_true, List.take_zero, List.take_succ_cons, and_self, Option.map_some, Bool.false_xor, Bool.and_self, Bool.true_and, Bool.and_true, Bool.true_xor, rounds_eq m hb, frac]
  rw [spring_after_eq m (sz _ (Int.le_refl _) (by omega))]
  have hsz0 := sz _ (Int.le_refl _) (by omega)
  simp only [w_seq, KS_nx, KS_rt, KS_bk, KS_ct, w_next, w_set, w_setM, w_drop, w_ret, w_retN, w_brk, w_cnt, w_if, w_asg, w_parB, w_parC, w_N, w_N0, w_N1, w_NT, KF_nx, KF_rt, w_fun, fin_d, fin_fr, w_fin, WE_some, WT_some, WA_some, WI_some, WS_some, WV_d, WV_fr, WV_loc, WVT_d, WVT_fr, WB_bl, WF_fr, WG_some, WO_some, WO_ite, WO_map, w_var, w_C, w_op, w_un, w_test, w_chain, w_and, w_or, w_not, w_VT, w_ifE, w_A0, w_A1, w_call, w_blt, w_curs0, w_curs1, w_vals0, w_vals1, w_tup, w_lst, w_yes, WL_loc, w_app, w_pop, w_rev, w_put, w_getI, w_isi, w_p0, w_p1, w_sl, w_lstR, w_tupR, w_newK, w_newT, KL_nx, KL_ct, KL_bk, KL_rt, wipeE, clr_nil, clr_cons, c1_none, c1_d, c1_loc, WC_z, WC_s, lt_a1, lt_a2, lt_a3, st_take2, put_lst, put_dK, kit_bb, kit_ib, kit_ii, kit_sb, kit_si, kit_ss, kit_tb, kit_ti, kit_ts, kit_tt, ty_int, ty_bl, ty_str, ty_tup, add_int, add_str, add_tup, add_lst, sub_int, mul_int', mul_lst, fdiv_int, mod_int, pow_int, neg_int, lt_int', le_int', gt_int', ge_int', is_non, isn_non, is_bl, isn_bl, isNon_int, isNon_str, isNon_tup, isNon_bl, isNon_non, len_str, len_tup, len_lst, len_frl, len_dK, int_int, int_bl, abs_int, sum_lst, any_lst, all_lst, max2_int, min2_int, tuple_lst, tuple_tup, list_lst, list_tup, ix_tup, ix_lst, ix_frl, ix_frt, sl_tup, sl_lst, tg_d, tg_fr, tg_loc, cellV_lst, cellV_dK, cellV_dT, eq_int, ne_int, eq_bl, ne_bl, in_ints_tup, in_ints_lst, atI_0, atI_1, atI_2, atI_3, st_len, st_at, st_at1, st_set, st_set1, st_take, st_take1, st_all, st_lt, List.map_cons, List.map_nil, List.length_cons, List.length_nil, List.length_map, List.getElem?_cons_zero, List.getElem?_cons_succ, List.set_cons_zero, List.set_cons_succ, List.cons_append, List.nil_append, List.append_nil, List.replicate_succ, List.replicate_zero, List.append_assoc, Nat.reduceAdd, Nat.reduceSub, Nat.reduceLT, Nat.zero_add, Nat.add_zero, true_implies, false_implies, and_true, true_and, implies_true, List.length_set, take_set, List.getElem?_set_self, Bool.not_true, decide_true, decide_false, Bool.not_false, decide_eq_true_eq, decide_eq_false_iff_not, Bool.true_eq_false, Bool.false_eq_true, Option.some.injEq, exists_eq_left, exists_eq_left', R.d.injEq, D.int.injEq, D.bl.injEq, if_true, if_false, reduceIte, not_true_eq_false, not_false_eq_true, List.take_zero, List.take_succ_cons, and_self, Option.map_some, Bool.false_xor, Bool.and_self, Bool.true_and, Bool.and_true, Bool.true_xor, new_IB, rounds_eq m hb]
  refine ⟨mulOk_l (by decide) (by decide), ?_⟩
  refine w_while (n := st.length + 1) (fun k env s => ∃ (h : Int) (l : List Int), env = [some (.d (encQ new)), some (.d (encQ turn)), some (.d (.int b)), some (.d (.int e)), some (.loc st.length), some (.d (.int h)), some (.d (.int (mNear (mHalf new turn h))))] ∧ s = st ++ [dIB l] ∧
    l.Nodup ∧ (∀ d, d ∈ l ↔ (b ≤ d ∧ d < e) ∧ ∃ h', 2 * mRnd new turn b - 2 ≤ h' ∧ h' < h ∧ mNear (mHalf new turn h') = d) ∧ 2 * mRnd new turn b - 2 ≤ h ∧ h ≤ 2 * mRnd new turn b - 2 + (2 * (e - b) + 5) ∧ k = (2 * mRnd new turn b - 2 + (2 * (e - b) + 5) - h).toNat ∧ (l.length : Int) ≤ h - (2 * mRnd new turn b - 2)) (2 * (e - b) + 5).toNat (by simp) ?_ ?_
  · refine ⟨_, [], rfl, rfl, List.nodup_nil, fun d => ⟨nofun, ?_⟩, Int.le_refl _, by omega, by omega, by simp⟩
    rintro ⟨_, h', h1, h2, _⟩
    omega
  · rintro k env s ⟨h, l, rfl, rfl, nd, hm, h1, h2, hk, hl⟩
    have hup : mNear (mHalf new turn h) < e → h ≤ 2 * mRnd new turn b - 2 + (2 * (e - b) + 4) := fun q => hcnt h q hbe
    have hll : l.length < 16000000 := by omega
    simp only [w_seq, KS_nx, KS_rt, KS_bk, KS_ct, w_next, w_set, w_setM, w_drop, w_ret, w_retN, w_brk, w_cnt, w_if, w_asg, w_parB, w_parC, w_N, w_N0, w_N1, w_NT, KF_nx, KF_rt, w_fun, fin_d, fin_fr, w_fin, WE_some, WT_some, WA_some, WI_some, WS_some, WV_d, WV_fr, WV_loc, WVT_d, WVT_fr, WB_bl, WF_fr, WG_some, WO_some, WO_ite, WO_map, w_var, w_C, w_op, w_un, w_test, w_chain, w_and, w_or, w_not, w_VT, w_ifE, w_A0, w_A1, w_call, w_blt, w_curs0, w_curs1, w_vals0, w_vals1, w_tup, w_lst, w_yes, WL_loc, w_app, w_pop, w_rev, w_put, w_getI, w_isi, w_p0, w_p1, w_sl, w_lstR, w_tupR, w_newK, w_newT, KL_nx, KL_ct, KL_bk, KL_rt, wipeE, clr_nil, clr_cons, c1_none, c1_d, c1_loc, WC_z, WC_s, lt_a1, lt_a2, lt_a3, st_take2, put_lst, put_dK, kit_bb, kit_ib, kit_ii, kit_sb, kit_si, kit_ss, kit_tb, kit_ti, kit_ts, kit_tt, ty_int, ty_bl, ty_str, ty_tup, add_int, add_str, add_tup, add_lst, sub_int, mul_int', mul_lst, fdiv_int, mod_int, pow_int, neg_int, lt_int', le_int', gt_int', ge_int', is_non, isn_non, is_bl, isn_bl, isNon_int, isNon_str, isNon_tup, isNon_bl, isNon_non, len_str, len_tup, len_lst, len_frl, len_dK, int_int, int_bl, abs_int, sum_lst, any_lst, all_lst, max2_int, min2_int, tuple_lst, tuple_tup, list_lst, list_tup, ix_tup, ix_lst, ix_frl, ix_frt, sl_tup, sl_lst, tg_d, tg_fr, tg_loc, cellV_lst, cellV_dK, cellV_dT, eq_int, ne_int, eq_bl, ne_bl, in_ints_tup, in_ints_lst, atI_0, atI_1, atI_2, atI_3, st_len, st_at, st_at1, st_set, st_set1, st_take, st_take1, st_all, st_lt, List.map_cons, List.map_nil, List.length_cons, List.length_nil, List.length_map, List.getElem?_cons_zero, List.getElem?_cons_succ, List.set_cons_zero, List.set_cons_succ, List.cons_append, List.nil_append, List.append_nil, List.replicate_succ, List.replicate_zero, List.append_assoc, Nat.reduceAdd, Nat.reduceSub, Nat.reduceLT, Nat.zero_add, Nat.add_zero, true_implies, false_implies, and_true, true_and, implies_true, List.length_set, take_set, List.getElem?_set_self, Bool.not_true, decide_true, decide_false, Bool.not_false, decide_eq_true_eq, decide_eq_false_iff_not, Bool.true_eq_false, Bool.false_eq_true, Option.some.injEq, exists_eq_left, exists_eq_left', R.d.injEq, D.int.injEq, D.bl.injEq, if_true, if_false, reduceIte, not_true_eq_false, not_false_eq_true, List.take_zero, List.take_succ_cons, and_self, Option.map_some, Bool.false_xor, Bool.and_self, Bool.true_and, Bool.and_true, Bool.true_xor, iadd_int, frac, put_IB hll, cell_IB]
    refine ⟨fun q => ⟨fun q2 => ?_, fun q2 => ?_⟩, fun q => ?_⟩
    · have q3 := hup q
      simp only [spring_after_eq m (sz (h + 1) (by omega) (by omega)), w_seq, KS_nx, KS_rt, KS_bk, KS_ct, w_next, w_set, w_setM, w_drop, w_ret, w_retN, w_brk, w_cnt, w_if, w_asg, w_parB, w_parC, w_N, w_N0, w_N1, w_NT, KF_nx, KF_rt, w_fun, fin_d, fin_fr, w_fin, WE_some, WT_some, WA_some, WI_some, WS_some, WV_d, WV_fr, WV_loc, WVT_d, WVT_fr, WB_bl, WF_fr, WG_some, WO_some, WO_ite, WO_map, w_var, w_C, w_op, w_un, w_test, w_chain, w_and, w_or, w_not, w_VT, w_ifE, w_A0, w_A1, w_call, w_blt, w_curs0, w_curs1, w_vals0, w_vals1, w_tup, w_lst, w_yes, WL_loc, w_app, w_pop, w_rev, w_put, w_getI, w_isi, w_p0, w_p1, w_sl, w_lstR, w_tupR, w_newK, w_newT, KL_nx, KL_ct, KL_bk, KL_rt, wipeE, clr_nil, clr_cons, c1_none, c1_d, c1_loc, WC_z, WC_s, lt_a1, lt_a2, lt_a3, st_take2, put_lst, put_dK, kit_bb, kit_ib, kit_ii, kit_sb, kit_si, kit_ss, kit_tb, kit_ti, kit_ts, kit_tt, ty_int, ty_bl, ty_str, ty_tup, add_int, add_str, add_tup, add_lst, sub_int, mul_int', mul_lst, fdiv_int, mod_int, pow_int, neg_int, lt_int', le_int', gt_int', ge_int', is_non, isn_non, is_bl, isn_bl, isNon_int, isNon_str, isNon_tup, isNon_bl, isNon_non, len_str, len_tup, len_lst, len_frl, len_dK, int_int, int_bl, abs_int, sum_lst, any_lst, all_lst, max2_int, min2_int, tuple_lst, tuple_tup, list_lst, list_tup, ix_tup, ix_lst, ix_frl, ix_frt, sl_tup, sl_lst, tg_d, tg_fr, tg_loc, cellV_lst, cellV_dK, cellV_dT, eq_int, ne_int, eq_bl, ne_bl, in_ints_tup, in_ints_lst, atI_0, atI_1, atI_2, atI_3, st_len, st_at, st_at1, st_set, st_set1, st_take, st_take1, st_all, st_lt, List.map_cons, List.map_nil, List.length_cons, List.length_nil, List.length_map, List.getElem?_cons_zero, List.getElem?_cons_succ, List.set_cons_zero, List.set_cons_succ, List.cons_append, List.nil_append, List.append_nil, List.replicate_succ, List.replicate_zero, List.append_assoc, Nat.reduceAdd, Nat.reduceSub, Nat.reduceLT, Nat.zero_add, Nat.add_zero, true_implies, false_implies, and_true, true_and, implies_true, List.length_set, take_set, List.getElem?_set_self, Bool.not_true, decide_true, decide_false, Bool.not_false, decide_eq_true_eq, decide_eq_false_iff_not, Bool.true_eq_false, Bool.false_eq_true, Option.some.injEq, exists_eq_left, exists_eq_left', R.d.injEq, D.int.injEq, D.bl.injEq, if_true, if_false, reduceIte, not_true_eq_false, not_false_eq_true, List.take_zero, List.take_succ_cons, and_self, Option.map_some, Bool.false_xor, Bool.and_self, Bool.true_and, Bool.and_true, Bool.true_xor, cell_IB]
      refine ⟨(2 * mRnd new turn b - 2 + (2 * (e - b) + 5) - (h + 1)).toNat, by omega, h + 1, addI l (mNear (mHalf new turn h)), rfl, rfl, nodup_addI nd, fun d => ?_, by omega, by omega, rfl, ?_⟩
      · rw [mem_addI, hm]
        constructor
        · rintro (⟨a, h', a1, a2, a3⟩ | rfl)
          · exact ⟨a, h', a1, by omega, a3⟩
          · exact ⟨⟨q2, q⟩, h, h1, by omega, rfl⟩
        · rintro ⟨a, h', a1, a2, a3⟩
          by_cases q5 : h' = h
          · subst q5; exact .inr a3.symm
          · exact .inl ⟨a, h', a1, by omega, a3⟩
      · have := len_addI (l := l) (k := mNear (mHalf new turn h))
        omega
    · have q3 := hup q
      simp only [spring_after_eq m (sz (h + 1) (by omega) (by omega)), w_seq, KS_nx, KS_rt, KS_bk, KS_ct, w_next, w_set, w_setM, w_drop, w_ret, w_retN, w_brk, w_cnt, w_if, w_asg, w_parB, w_parC, w_N, w_N0, w_N1, w_NT, KF_nx, KF_rt, w_fun, fin_d, fin_fr, w_fin, WE_some, WT_some, WA_some, WI_some, WS_some, WV_d, WV_fr, WV_loc, WVT_d, WVT_fr, WB_bl, WF_fr, WG_some, WO_some, WO_ite, WO_map, w_var, w_C, w_op, w_un, w_test, w_chain, w_and, w_or, w_not, w_VT, w_ifE, w_A0, w_A1, w_call, w_blt, w_curs0, w_curs1, w_vals0, w_vals1, w_tup, w_lst, w_yes, WL_loc, w_app, w_pop, w_rev, w_put, w_getI, w_isi, w_p0, w_p1, w_sl, w_lstR, w_tupR, w_newK, w_newT, KL_nx, KL_ct, KL_bk, KL_rt, wipeE, clr_nil, clr_cons, c1_none, c1_d, c1_loc, WC_z, WC_s, lt_a1, lt_a2, lt_a3, st_take2, put_lst, put_dK, kit_bb, kit_ib, kit_ii, kit_sb, kit_si, kit_ss, kit_tb, kit_ti, kit_ts, kit_tt, ty_int, ty_bl, ty_str, ty_tup, add_int, add_str, add_tup, add_lst, sub_int, mul_int', mul_lst, fdiv_int, mod_int, pow_int, neg_int, lt_int', le_int', gt_int', ge_int', is_non, isn_non, is_bl, isn_bl, isNon_int, isNon_str, isNon_tup, isNon_bl, isNon_non, len_str, len_tup, len_lst, len_frl, len_dK, int_int, int_bl, abs_int, sum_lst, any_lst, all_lst, max2_int, min2_int, tuple_lst, tuple_tup, list_lst, list_tup, ix_tup, ix_lst, ix_frl, ix_frt, sl_tup, sl_lst, tg_d, tg_fr, tg_loc, cellV_lst, cellV_dK, cellV_dT, eq_int, ne_int, eq_bl, ne_bl, in_ints_tup, in_ints_lst, atI_0, atI_1, atI_2, atI_3, st_len, st_at, st_at1, st_set, st_set1, st_take, st_take1, st_all, st_lt, List.map_cons, List.map_nil, List.length_cons, List.length_nil, List.length_map, List.getElem?_cons_zero, List.getElem?_cons_succ, List.set_cons_zero, List.set_cons_succ, List.cons_append, List.nil_append, List.append_nil, List.replicate_succ, List.replicate_zero, List.append_assoc, Nat.reduceAdd, Nat.reduceSub, Nat.reduceLT, Nat.zero_add, Nat.add_zero, true_implies, false_implies, and_true, true_and, implies_true, List.length_set, take_set, List.getElem?_set_self, Bool.not_true, decide_true, decide_false, Bool.not_false, decide_eq_true_eq, decide_eq_false_iff_not, Bool.true_eq_false, Bool.false_eq_true, Option.some.injEq, exists_eq_left, exists_eq_left', R.d.injEq, D.int.injEq, D.bl.injEq, if_true, if_false, reduceIte, not_true_eq_false, not_false_eq_true, List.take_zero, List.take_succ_cons, and_self, Option.map_some, Bool.false_xor, Bool.and_self, Bool.true_and, Bool.and_true, Bool.true_xor, cell_IB]
      refine ⟨(2 * mRnd new turn b - 2 + (2 * (e - b) + 5) - (h + 1)).toNat, by omega, h + 1, l, rfl, rfl, nd, fun d => ?_, by omega, by omega, rfl, by omega⟩
      rw [hm]
      constructor
      · rintro ⟨a, h', a1, a2, a3⟩
        exact ⟨a, h', a1, by omega, a3⟩
      · rintro ⟨a, h', a1, a2, a3⟩
        by_cases q5 : h' = h
        · subst q5; omega
        · exact ⟨a, h', a1, by omega, a3⟩
    · have hs : sortI l = (daysIn b e).filter (mSpr new turn) := by
        refine sortI_of ((daysIn_lt b e).sublist List.filter_sublist) fun d => ?_
        rw [List.mem_filter, mem_daysIn, hspr, hm]
        constructor
        · rintro ⟨a, h', a3⟩
          refine ⟨a, h', ?_, ?_, a3⟩
          · refine Classical.byContradiction fun q5 => ?_
            have := hfst h' (by omega)
            omega
          · refine Classical.byContradiction fun q5 => ?_
            have q6 := half_mono m.pos (new := new) (show h ≤ h' by omega)
            have q7 : mNear (mHalf new turn h') < e := by omega
            rw [near_lt] at q7
            exact q (near_lt.mpr (Rat.le_trans q6 q7))
        · rintro ⟨a, h', a1, a2, a3⟩
          exact ⟨a, h', a3⟩
      simp only [w_seq, KS_nx, KS_rt, KS_bk, KS_ct, w_next, w_set, w_setM, w_drop, w_ret, w_retN, w_brk, w_cnt, w_if, w_asg, w_parB, w_parC, w_N, w_N0, w_N1, w_NT, KF_nx, KF_rt, w_fun, fin_d, fin_fr, w_fin, WE_some, WT_some, WA_some, WI_some, WS_some, WV_d, WV_fr, WV_loc, WVT_d, WVT_fr, WB_bl, WF_fr, WG_some, WO_some, WO_ite, WO_map, w_var, w_C, w_op, w_un, w_test, w_chain, w_and, w_or, w_not, w_VT, w_ifE, w_A0, w_A1, w_call, w_blt, w_curs0, w_curs1, w_vals0, w_vals1, w_tup, w_lst, w_yes, WL_loc, w_app, w_pop, w_rev, w_put, w_getI, w_isi, w_p0, w_p1, w_sl, w_lstR, w_tupR, w_newK, w_newT, KL_nx, KL_ct, KL_bk, KL_rt, wipeE, clr_nil, clr_cons, c1_none, c1_d, c1_loc, WC_z, WC_s, lt_a1, lt_a2, lt_a3, st_take2, put_lst, put_dK, kit_bb, kit_ib, kit_ii, kit_sb, kit_si, kit_ss, kit_tb, kit_ti, kit_ts, kit_tt, ty_int, ty_bl, ty_str, ty_tup, add_int, add_str, add_tup, add_lst, sub_int, mul_int', mul_lst, fdiv_int, mod_int, pow_int, neg_int, lt_int', le_int', gt_int', ge_int', is_non, isn_non, is_bl, isn_bl, isNon_int, isNon_str, isNon_tup, isNon_bl, isNon_non, len_str, len_tup, len_lst, len_frl, len_dK, int_int, int_bl, abs_int, sum_lst, any_lst, all_lst, max2_int, min2_int, tuple_lst, tuple_tup, list_lst, list_tup, ix_tup, ix_lst, ix_frl, ix_frt, sl_tup, sl_lst, tg_d, tg_fr, tg_loc, cellV_lst, cellV_dK, cellV_dT, eq_int, ne_int, eq_bl, ne_bl, in_ints_tup, in_ints_lst, atI_0, atI_1, atI_2, atI_3, st_len, st_at, st_at1, st_set, st_set1, st_take, st_take1, st_all, st_lt, List.map_cons, List.map_nil, List.length_cons, List.length_nil, List.length_map, List.getElem?_cons_zero, List.getElem?_cons_succ, List.set_cons_zero, List.set_cons_succ, List.cons_append, List.nil_append, List.append_nil, List.replicate_succ, List.replicate_zero, List.append_assoc, Nat.reduceAdd, Nat.reduceSub, Nat.reduceLT, Nat.zero_add, Nat.add_zero, true_implies, false_implies, and_true, true_and, implies_true, List.length_set, take_set, List.getElem?_set_self, Bool.not_true, decide_true, decide_false, Bool.not_false, decide_eq_true_eq, decide_eq_false_iff_not, Bool.true_eq_false, Bool.false_eq_true, Option.some.injEq, exists_eq_left, exists_eq_left', R.d.injEq, D.int.injEq, D.bl.injEq, if_true, if_false, reduceIte, not_true_eq_false, not_false_eq_true, List.take_zero, List.take_succ_cons, and_self, Option.map_some, Bool.false_xor, Bool.and_self, Bool.true_and, Bool.and_true, Bool.true_xor, cell_IB, sorted_IB nd (fun k => Iff.rfl), hs]
end
end K92

set_option Elab.async false
set_option linter.all false
set_option maxRecDepth 100000
set_option maxHeartbeats 4000000
namespace K92
open PySem DL
open L2 (atI)
theorem p150 : (2 : Nat) ^ 150 + 100000000 < 2 ^ 200 ∧ (2 : Nat) ^ 200 + 100000000 < 2 ^ 290 ∧ (2 : Nat) ^ 290 + 100000000 < 2 ^ 300 := by decide +kernel
section
variable {new turn : Rat} {d : Int} {st : Sto} (m : Mo new turn)
include m
theorem lnew_eq {z : Rat} (hz : Sz 1000 z) : F__law_new [.d (encQ new), .d (encQ turn), .d (encQ z)] st = some (.d (encQ (mNew new turn z)), st) := by
  refine of_we ?_
  have s2 := m.t.mul hz
  unfold F__law_new
  simp only [fit0, fit1, fit2, fit3, fit4, fit5, fit6, fit7, fit8, fit9, fit10, fit11, fit12, fit13, fit14, fit15, fit16, fit17, fit18, fit19, fit20, fit21, fit22, fit23, fit24, fit25, fit26, fit27, fit28, fit29, fit30, tame_int, tame_bl, tame_non, tame_tup2, tames_nil, tames_cons, w_seq, KS_nx, KS_rt, KS_bk, KS_ct, w_next, w_set, w_setM, w_drop, w_ret, w_retN, w_brk, w_cnt, w_if, w_asg, w_parB, w_parC, w_N, w_N0, w_N1, w_NT, KF_nx, KF_rt, w_fun, fin_d, fin_fr, w_fin, WE_some, WT_some, WA_some, WI_some, WS_some, WV_d, WV_fr, WV_loc, WVT_d, WVT_fr, WB_bl, WF_fr, WG_some, WO_some, WO_ite, WO_map, w_var, w_C, w_op, w_un, w_test, w_chain, w_and, w_or, w_not, w_VT, w_ifE, w_A0, w_A1, w_call, w_blt, w_curs0, w_curs1, w_vals0, w_vals1, w_tup, w_lst, w_yes, WL_loc, w_app, w_pop, w_rev, w_put, w_getI, w_isi, w_p0, w_p1, w_sl, w_lstR, w_tupR, w_newK, w_newT, KL_nx, KL_ct, KL_bk, KL_rt, wipeE, clr_nil, clr_cons, c1_none, c1_d, c1_loc, WC_z, WC_s, lt_a1, lt_a2, lt_a3, st_take2, put_lst, put_dK, kit_bb, kit_ib, kit_ii, kit_sb, kit_si, kit_ss, kit_tb, kit_ti, kit_ts, kit_tt, ty_int, ty_bl, ty_str, ty_tup, add_int, add_str, add_tup, add_lst, sub_int, mul_int', mul_lst, fdiv_int, mod_int, pow_int, neg_int, lt_int', le_int', gt_int', ge_int', is_non, isn_non, is_bl, isn_bl, isNon_int, isNon_str, isNon_tup, isNon_bl, isNon_non, len_str, len_tup, len_lst, len_frl, len_dK, int_int, int_bl, abs_int, sum_lst, any_lst, all_lst, max2_int, min2_int, tuple_lst, tuple_tup, list_lst, list_tup, ix_tup, ix_lst, ix_frl, ix_frt, sl_tup, sl_lst, tg_d, tg_fr, tg_loc, cellV_lst, cellV_dK, cellV_dT, eq_int, ne_int, eq_bl, ne_bl, in_ints_tup, in_ints_lst, atI_0, atI_1, atI_2, atI_3, st_len, st_at, st_at1, st_set, st_set1, st_take, st_take1, st_all, st_lt, List.map_cons, List.map_nil, List.length_cons, List.length_nil, List.length_map, List.getElem?_cons_zero, List.getElem?_cons_succ, List.set_cons_zero, List.set_cons_succ, List.cons_append, List.nil_append, List.append_nil, List.replicate_succ, List.replicate_zero, List.append_assoc, Nat.reduceAdd, Nat.reduceSub, Nat.reduceLT, Nat.zero_add, Nat.add_zero, true_implies, false_implies, and_true, true_and, implies_true, List.length_set, take_set, List.getElem?_set_self, Bool.not_true, decide_true, decide_false, Bool.not_false, decide_eq_true_eq, decide_eq_false_iff_not, Bool.true_eq_false, Bool.false_eq_true, Option.some.injEq, exists_eq_left, exists_eq_left', R.d.injEq, D.int.injEq, D.bl.injEq, if_true, if_false, reduceIte, not_true_eq_false, not_false_eq_true, List.take_zero, List.take_succ_cons, and_self, Option.map_some, Bool.false_xor, Bool.and_self, Bool.true_and, Bool.and_true, Bool.true_xor, ltimes_eq (sz_big m.t) (sz_big hz), lplus_eq (sz_big m.n) (sz_big s2)]
  first | exact ⟨rfl, rfl⟩ | rfl
end
theorem same12 {x : D} {st : Sto} (h : tame 11 x = true) : F__law_same 12 [.d x, .d x] st = some (.d (.bl true), st) := same_refl 11 x st h
theorem si (i : Int) (st : Sto) : F__law_same 12 [.d (.int i), .d (.int i)] st = some (.d (.bl true), st) := same12 rfl
theorem sq (q : Rat) (st : Sto) : F__law_same 12 [.d (encQ q), .d (encQ q)] st = some (.d (.bl true), st) := same12 (tame_Q q)
theorem sb (b : Bool) (st : Sto) : F__law_same 12 [.d (.bl b), .d (.bl b)] st = some (.d (.bl true), st) := same12 (tame_bl ..)
theorem quarters_Q {h : Int} : Rat.divInt h 4 = (h : Rat) / 4 := by rw [Rat.divInt_eq_div]; rfl
theorem is_spring_eq {new turn : Rat} {d w : Int} {st : Sto} (m : Mo new turn) (hd : d.natAbs < 2 ^ 290) (w0 : 0 ≤ w) (w1 : w < 100) : F_is_spring [.d (encQ new), .d (encQ turn), .d (.int d), .d (.int w)] st = some (.d (.bl (decide (0 < (((daysIn (d - w) (d + w + 1)).filter (mSpr new turn)).length : Int)))), st) := by
  refine of_we ?_
  have := p150
  unfold F_is_spring
  simp only [fit0, fit1, fit2, fit3, fit4, fit5, fit6, fit7, fit8, fit9, fit10, fit11, fit12, fit13, fit14, fit15, fit16, fit17, fit18, fit19, fit20, fit21, fit22, fit23, fit24, fit25, fit26, fit27, fit28, fit29, fit30, tame_int, tame_bl, tame_non, tame_tup2, tames_nil, tames_cons, w_seq, KS_nx, KS_rt, KS_bk, KS_ct, w_next, w_set, w_setM, w_drop, w_ret, w_retN, w_brk, w_cnt, w_if, w_asg, w_parB, w_parC, w_N, w_N0, w_N1, w_NT, KF_nx, KF_rt, w_fun, fin_d, fin_fr, w_fin, WE_some, WT_some, WA_some, WI_some, WS_some, WV_d, WV_fr, WV_loc, WVT_d, WVT_fr, WB_bl, WF_fr, WG_some, WO_some, WO_ite, WO_map, w_var, w_C, w_op, w_un, w_test, w_chain, w_and, w_or, w_not, w_VT, w_ifE, w_A0, w_A1, w_call, w_blt, w_curs0, w_curs1, w_vals0, w_vals1, w_tup, w_lst, w_yes, WL_loc, w_app, w_pop, w_rev, w_put, w_getI, w_isi, w_p0, w_p1, w_sl, w_lstR, w_tupR, w_newK, w_newT, KL_nx, KL_ct, KL_bk, KL_rt, wipeE, clr_nil, clr_cons, c1_none, c1_d, c1_loc, WC_z, WC_s, lt_a1, lt_a2, lt_a3, st_take2, put_lst, put_dK, kit_bb, kit_ib, kit_ii, kit_sb, kit_si, kit_ss, kit_tb, kit_ti, kit_ts, kit_tt, ty_int, ty_bl, ty_str, ty_tup, add_int, add_str, add_tup, add_lst, sub_int, mul_int', mul_lst, fdiv_int, mod_int, pow_int, neg_int, lt_int', le_int', gt_int', ge_int', is_non, isn_non, is_bl, isn_bl, isNon_int, isNon_str, isNon_tup, isNon_bl, isNon_non, len_str, len_tup, len_lst, len_frl, len_dK, int_int, int_bl, abs_int, sum_lst, any_lst, all_lst, max2_int, min2_int, tuple_lst, tuple_tup, list_lst, list_tup, ix_tup, ix_lst, ix_frl, ix_frt, sl_tup, sl_lst, tg_d, tg_fr, tg_loc, cellV_lst, cellV_dK, cellV_dT, eq_int, ne_int, eq_bl, ne_bl, in_ints_tup, in_ints_lst, atI_0, atI_1, atI_2, atI_3, st_len, st_at, st_at1, st_set, st_set1, st_take, st_take1, st_all, st_lt, List.map_cons, List.map_nil, List.length_cons, List.length_nil, List.length_map, List.getElem?_cons_zero, List.getElem?_cons_succ, List.set_cons_zero, List.set_cons_succ, List.cons_append, List.nil_append, List.append_nil, List.replicate_succ, List.replicate_zero, List.append_assoc, Nat.reduceAdd, Nat.reduceSub, Nat.reduceLT, Nat.zero_add, Nat.add_zero, true_implies, false_implies, and_true, true_and, implies_true, List.length_set, take_set, List.getElem?_set_self, Bool.not_true, decide_true, decide_false, Bool.not_false, decide_eq_true_eq, decide_eq_false_iff_not, Bool.true_eq_false, Bool.false_eq_true, Option.some.injEq, exists_eq_left, exists_eq_left', R.d.injEq, D.int.injEq, D.bl.injEq, if_true, if_false, reduceIte, not_true_eq_false, not_false_eq_true, List.take_zero, List.take_succ_cons, and_self, Option.map_some, Bool.false_xor, Bool.and_self, Bool.true_and, Bool.and_true, Bool.true_xor, spring_eq m (show (d - w).natAbs < 2 ^ 300 by omega) (show d - w ≤ d + w + 1 by omega) (by omega)]
theorem tame_ints {n : Nat} {l : List Int} : tames n (l.map D.int) = true := tames_mem.mpr fun d hd => by
  obtain ⟨i, _, rfl⟩ := List.mem_map.mp hd
  exact tame_int n i
theorem st_ints {l : List Int} (h : l.length < 1000000) (st : Sto) : F__law_same 12 [.d (.tup (l.map D.int)), .d (.tup (l.map D.int))] st = some (.d (.bl true), st) := same12 (by
  rw [tame_tup, Bool.and_eq_true, decide_eq_true_eq, List.length_map]
  exact ⟨h, tame_ints⟩)
theorem ix_two {a b v : Int} {c : Prop} [Decidable c] : ∃ w, (w = a ∨ w = b) ∧ atI [D.int a, D.int b] (if c then 1 else 0) = some (.int w) := by
  split
  · exact ⟨b, .inr rfl, rfl⟩
  · exact ⟨a, .inl rfl, rfl⟩
/-- a moon as the law draws it -/
structure Md (new turn : Rat) : Prop where
  n : Sz 120 new
  t : Sz 10 turn
  one : 1 ≤ turn
theorem Md.mo {new turn : Rat} (h : Md new turn) : Mo new turn := ⟨h.n.mono (by decide), h.t.mono (by decide), h.one⟩
theorem mul_ite' {v : Int} {c : Prop} [Decidable c] : mulOk v (if c then 1 else 0) := by split <;> exact mulOk_r (by decide) (by decide)
theorem p94 : (10000000000000000000000000000 : Int) + 200 < 2 ^ 100 := by decide
theorem cell0 (st : Sto) : F__law_cell [.d (.lst [.int 0]), .d (.int 1)] st = some (.d (.int 0), st) := by
  refine of_we ?_
  unfold F__law_cell
  have e1 : (1 : Int).fmod ((1 : Nat) : Int) = 0 := by decide
  have e2 : (0 : Int).fmod (10 ^ Int.toNat 28) = 0 := by decide
  have e3 : (10 : Int) ^ Int.toNat 28 ≠ 0 := by decide
  have e4 : (if (0 : Int) < 0 then -(0 : Int) else 0) = 0 := by decide
  have e5 : ¬ (0 : Int) < 0 := by decide
  have e6 : ¬ ((1 : Nat) : Int) = 0 := by decide
  simp only [fit0, fit1, fit2, fit3, fit4, fit5, fit6, fit7, fit8, fit9, fit10, fit11, fit12, fit13, fit14, fit15, fit16, fit17, fit18, fit19, fit20, fit21, fit22, fit23, fit24, fit25, fit26, fit27, fit28, fit29, fit30, tame_int, tame_bl, tame_non, tame_tup2, tames_nil, tames_cons, w_seq, KS_nx, KS_rt, KS_bk, KS_ct, w_next, w_set, w_setM, w_drop, w_ret, w_retN, w_brk, w_cnt, w_if, w_asg, w_parB, w_parC, w_N, w_N0, w_N1, w_NT, KF_nx, KF_rt, w_fun, fin_d, fin_fr, w_fin, WE_some, WT_some, WA_some, WI_some, WS_some, WV_d, WV_fr, WV_loc, WVT_d, WVT_fr, WB_bl, WF_fr, WG_some, WO_some, WO_ite, WO_map, w_var, w_C, w_op, w_un, w_test, w_chain, w_and, w_or, w_not, w_VT, w_ifE, w_A0, w_A1, w_call, w_blt, w_curs0, w_curs1, w_vals0, w_vals1, w_tup, w_lst, w_yes, WL_loc, w_app, w_pop, w_rev, w_put, w_getI, w_isi, w_p0, w_p1, w_sl, w_lstR, w_tupR, w_newK, w_newT, KL_nx, KL_ct, KL_bk, KL_rt, wipeE, clr_nil, clr_cons, c1_none, c1_d, c1_loc, WC_z, WC_s, lt_a1, lt_a2, lt_a3, st_take2, put_lst, put_dK, kit_bb, kit_ib, kit_ii, kit_sb, kit_si, kit_ss, kit_tb, kit_ti, kit_ts, kit_tt, ty_int, ty_bl, ty_str, ty_tup, add_int, add_str, add_tup, add_lst, sub_int, mul_int', mul_lst, fdiv_int, mod_int, pow_int, neg_int, lt_int', le_int', gt_int', ge_int', is_non, isn_non, is_bl, isn_bl, isNon_int, isNon_str, isNon_tup, isNon_bl, isNon_non, len_str, len_tup, len_lst, len_frl, len_dK, int_int, int_bl, abs_int, sum_lst, any_lst, all_lst, max2_int, min2_int, tuple_lst, tuple_tup, list_lst, list_tup, ix_tup, ix_lst, ix_frl, ix_frt, sl_tup, sl_lst, tg_d, tg_fr, tg_loc, cellV_lst, cellV_dK, cellV_dT, eq_int, ne_int, eq_bl, ne_bl, in_ints_tup, in_ints_lst, atI_0, atI_1, atI_2, atI_3, st_len, st_at, st_at1, st_set, st_set1, st_take, st_take1, st_all, st_lt, List.map_cons, List.map_nil, List.length_cons, List.length_nil, List.length_map, List.getElem?_cons_zero, List.getElem?_cons_succ, List.set_cons_zero, List.set_cons_succ, List.cons_append, List.nil_append, List.append_nil, List.replicate_succ, List.replicate_zero, List.append_assoc, Nat.reduceAdd, Nat.reduceSub, Nat.reduceLT, Nat.zero_add, Nat.add_zero, true_implies, false_implies, and_true, true_and, implies_true, List.length_set, take_set, List.getElem?_set_self, Bool.not_true, decide_true, decide_false, Bool.not_false, decide_eq_true_eq, decide_eq_false_iff_not, Bool.true_eq_false, Bool.false_eq_true, Option.some.injEq, exists_eq_left, exists_eq_left', R.d.injEq, D.int.injEq, D.bl.injEq, if_true, if_false, reduceIte, not_true_eq_false, not_false_eq_true, List.take_zero, List.take_succ_cons, and_self, Option.map_some, Bool.false_xor, Bool.and_self, Bool.true_and, Bool.and_true, Bool.true_xor, pw10_28, e1, e2, e3, e4, e5, e6]
  exact ⟨by decide, e3, mulOk_r (by decide) (by decide), by decide⟩
theorem moon_ok {ds : List Int} {Q : R → Sto → Prop}
    (h : ∀ (new turn : Rat) (ds' : List Int), Md new turn → Q (.d (.tup [encQ new, encQ turn])) [.lst (ds'.map D.int)]) : WE (F__law_moon [.loc 0, .d (.lst [.int 0])] [.lst (ds.map D.int)]) Q := by
  unfold F__law_moon
  simp only [fit0, fit1, fit2, fit3, fit4, fit5, fit6, fit7, fit8, fit9, fit10, fit11, fit12, fit13, fit14, fit15, fit16, fit17, fit18, fit19, fit20, fit21, fit22, fit23, fit24, fit25, fit26, fit27, fit28, fit29, fit30, tame_int, tame_bl, tame_non, tame_tup2, tames_nil, tames_cons, w_seq, KS_nx, KS_rt, KS_bk, KS_ct, w_next, w_set, w_setM, w_drop, w_ret, w_retN, w_brk, w_cnt, w_if, w_asg, w_parB, w_parC, w_N, w_N0, w_N1, w_NT, KF_nx, KF_rt, w_fun, fin_d, fin_fr, w_fin, WE_some, WT_some, WA_some, WI_some, WS_some, WV_d, WV_fr, WV_loc, WVT_d, WVT_fr, WB_bl, WF_fr, WG_some, WO_some, WO_ite, WO_map, w_var, w_C, w_op, w_un, w_test, w_chain, w_and, w_or, w_not, w_VT, w_ifE, w_A0, w_A1, w_call, w_blt, w_curs0, w_curs1, w_vals0, w_vals1, w_tup, w_lst, w_yes, WL_loc, w_app, w_pop, w_rev, w_put, w_getI, w_isi, w_p0, w_p1, w_sl, w_lstR, w_tupR, w_newK, w_newT, KL_nx, KL_ct, KL_bk, KL_rt, wipeE, clr_nil, clr_cons, c1_none, c1_d, c1_loc, WC_z, WC_s, lt_a1, lt_a2, lt_a3, st_take2, put_lst, put_dK, kit_bb, kit_ib, kit_ii, kit_sb, kit_si, kit_ss, kit_tb, kit_ti, kit_ts, kit_tt, ty_int, ty_bl, ty_str, ty_tup, add_int, add_str, add_tup, add_lst, sub_int, mul_int', mul_lst, fdiv_int, mod_int, pow_int, neg_int, lt_int', le_int', gt_int', ge_int', is_non, isn_non, is_bl, isn_bl, isNon_int, isNon_str, isNon_tup, isNon_bl, isNon_non, len_str, len_tup, len_lst, len_frl, len_dK, int_int, int_bl, abs_int, sum_lst, any_lst, all_lst, max2_int, min2_int, tuple_lst, tuple_tup, list_lst, list_tup, ix_tup, ix_lst, ix_frl, ix_frt, sl_tup, sl_lst, tg_d, tg_fr, tg_loc, cellV_lst, cellV_dK, cellV_dT, eq_int, ne_int, eq_bl, ne_bl, in_ints_tup, in_ints_lst, atI_0, atI_1, atI_2, atI_3, st_len, st_at, st_at1, st_set, st_set1, st_take, st_take1, st_all, st_lt, List.map_cons, List.map_nil, List.length_cons, List.length_nil, List.length_map, List.getElem?_cons_zero, List.getElem?_cons_succ, List.set_cons_zero, List.set_cons_succ, List.cons_append, List.nil_append, List.append_nil, List.replicate_succ, List.replicate_zero, List.append_assoc, Nat.reduceAdd, Nat.reduceSub, Nat.reduceLT, Nat.zero_add, Nat.add_zero, true_implies, false_implies, and_true, true_and, implies_true, List.length_set, take_set, List.getElem?_set_self, Bool.not_true, decide_true, decide_false, Bool.not_false, decide_eq_true_eq, decide_eq_false_iff_not, Bool.true_eq_false, Bool.false_eq_true, Option.some.injEq, exists_eq_left, exists_eq_left', R.d.injEq, D.int.injEq, D.bl.injEq, if_true, if_false, reduceIte, not_true_eq_false, not_false_eq_true, List.take_zero, List.take_succ_cons, and_self, Option.map_some, Bool.false_xor, Bool.and_self, Bool.true_and, Bool.and_true, Bool.true_xor]
  refine take_ok rfl (by decide) fun v ds v0 v1 => ?_
  simp only [fit0, fit1, fit2, fit3, fit4, fit5, fit6, fit7, fit8, fit9, fit10, fit11, fit12, fit13, fit14, fit15, fit16, fit17, fit18, fit19, fit20, fit21, fit22, fit23, fit24, fit25, fit26, fit27, fit28, fit29, fit30, tame_int, tame_bl, tame_non, tame_tup2, tames_nil, tames_cons, w_seq, KS_nx, KS_rt, KS_bk, KS_ct, w_next, w_set, w_setM, w_drop, w_ret, w_retN, w_brk, w_cnt, w_if, w_asg, w_parB, w_parC, w_N, w_N0, w_N1, w_NT, KF_nx, KF_rt, w_fun, fin_d, fin_fr, w_fin, WE_some, WT_some, WA_some, WI_some, WS_some, WV_d, WV_fr, WV_loc, WVT_d, WVT_fr, WB_bl, WF_fr, WG_some, WO_some, WO_ite, WO_map, w_var, w_C, w_op, w_un, w_test, w_chain, w_and, w_or, w_not, w_VT, w_ifE, w_A0, w_A1, w_call, w_blt, w_curs0, w_curs1, w_vals0, w_vals1, w_tup, w_lst, w_yes, WL_loc, w_app, w_pop, w_rev, w_put, w_getI, w_isi, w_p0, w_p1, w_sl, w_lstR, w_tupR, w_newK, w_newT, KL_nx, KL_ct, KL_bk, KL_rt, wipeE, clr_nil, clr_cons, c1_none, c1_d, c1_loc, WC_z, WC_s, lt_a1, lt_a2, lt_a3, st_take2, put_lst, put_dK, kit_bb, kit_ib, kit_ii, kit_sb, kit_si, kit_ss, kit_tb, kit_ti, kit_ts, kit_tt, ty_int, ty_bl, ty_str, ty_tup, add_int, add_str, add_tup, add_lst, sub_int, mul_int', mul_lst, fdiv_int, mod_int, pow_int, neg_int, lt_int', le_int', gt_int', ge_int', is_non, isn_non, is_bl, isn_bl, isNon_int, isNon_str, isNon_tup, isNon_bl, isNon_non, len_str, len_tup, len_lst, len_frl, len_dK, int_int, int_bl, abs_int, sum_lst, any_lst, all_lst, max2_int, min2_int, tuple_lst, tuple_tup, list_lst, list_tup, ix_tup, ix_lst, ix_frl, ix_frt, sl_tup, sl_lst, tg_d, tg_fr, tg_loc, cellV_lst, cellV_dK, cellV_dT, eq_int, ne_int, eq_bl, ne_bl, in_ints_tup, in_ints_lst, atI_0, atI_1, atI_2, atI_3, st_len, st_at, st_at1, st_set, st_set1, st_take, st_take1, st_all, st_lt, List.map_cons, List.map_nil, List.length_cons, List.length_nil, List.length_map, List.getElem?_cons_zero, List.getElem?_cons_succ, List.set_cons_zero, List.set_cons_succ, List.cons_append, List.nil_append, List.append_nil, List.replicate_succ, List.replicate_zero, List.append_assoc, Nat.reduceAdd, Nat.reduceSub, Nat.reduceLT, Nat.zero_add, Nat.add_zero, true_implies, false_implies, and_true, true_and, implies_true, List.length_set, take_set, List.getElem?_set_self, Bool.not_true, decide_true, decide_false, Bool.not_false, decide_eq_true_eq, decide_eq_false_iff_not, Bool.true_eq_false, Bool.false_eq_true, Option.some.injEq, exists_eq_left, exists_eq_left', R.d.injEq, D.int.injEq, D.bl.injEq, if_true, if_false, reduceIte, not_true_eq_false, not_false_eq_true, List.take_zero, List.take_succ_cons, and_self, Option.map_some, Bool.false_xor, Bool.and_self, Bool.true_and, Bool.and_true, Bool.true_xor, cell0]
  refine take_ok rfl (by decide) fun w ds w0 w1 => ?_
  simp only [fit0, fit1, fit2, fit3, fit4, fit5, fit6, fit7, fit8, fit9, fit10, fit11, fit12, fit13, fit14, fit15, fit16, fit17, fit18, fit19, fit20, fit21, fit22, fit23, fit24, fit25, fit26, fit27, fit28, fit29, fit30, tame_int, tame_bl, tame_non, tame_tup2, tames_nil, tames_cons, w_seq, KS_nx, KS_rt, KS_bk, KS_ct, w_next, w_set, w_setM, w_drop, w_ret, w_retN, w_brk, w_cnt, w_if, w_asg, w_parB, w_parC, w_N, w_N0, w_N1, w_NT, KF_nx, KF_rt, w_fun, fin_d, fin_fr, w_fin, WE_some, WT_some, WA_some, WI_some, WS_some, WV_d, WV_fr, WV_loc, WVT_d, WVT_fr, WB_bl, WF_fr, WG_some, WO_some, WO_ite, WO_map, w_var, w_C, w_op, w_un, w_test, w_chain, w_and, w_or, w_not, w_VT, w_ifE, w_A0, w_A1, w_call, w_blt, w_curs0, w_curs1, w_vals0, w_vals1, w_tup, w_lst, w_yes, WL_loc, w_app, w_pop, w_rev, w_put, w_getI, w_isi, w_p0, w_p1, w_sl, w_lstR, w_tupR, w_newK, w_newT, KL_nx, KL_ct, KL_bk, KL_rt, wipeE, clr_nil, clr_cons, c1_none, c1_d, c1_loc, WC_z, WC_s, lt_a1, lt_a2, lt_a3, st_take2, put_lst, put_dK, kit_bb, kit_ib, kit_ii, kit_sb, kit_si, kit_ss, kit_tb, kit_ti, kit_ts, kit_tt, ty_int, ty_bl, ty_str, ty_tup, add_int, add_str, add_tup, add_lst, sub_int, mul_int', mul_lst, fdiv_int, mod_int, pow_int, neg_int, lt_int', le_int', gt_int', ge_int', is_non, isn_non, is_bl, isn_bl, isNon_int, isNon_str, isNon_tup, isNon_bl, isNon_non, len_str, len_tup, len_lst, len_frl, len_dK, int_int, int_bl, abs_int, sum_lst, any_lst, all_lst, max2_int, min2_int, tuple_lst, tuple_tup, list_lst, list_tup, ix_tup, ix_lst, ix_frl, ix_frt, sl_tup, sl_lst, tg_d, tg_fr, tg_loc, cellV_lst, cellV_dK, cellV_dT, eq_int, ne_int, eq_bl, ne_bl, in_ints_tup, in_ints_lst, atI_0, atI_1, atI_2, atI_3, st_len, st_at, st_at1, st_set, st_set1, st_take, st_take1, st_all, st_lt, List.map_cons, List.map_nil, List.length_cons, List.length_nil, List.length_map, List.getElem?_cons_zero, List.getElem?_cons_succ, List.set_cons_zero, List.set_cons_succ, List.cons_append, List.nil_append, List.append_nil, List.replicate_succ, List.replicate_zero, List.append_assoc, Nat.reduceAdd, Nat.reduceSub, Nat.reduceLT, Nat.zero_add, Nat.add_zero, true_implies, false_implies, and_true, true_and, implies_true, List.length_set, take_set, List.getElem?_set_self, Bool.not_true, decide_true, decide_false, Bool.not_false, decide_eq_true_eq, decide_eq_false_iff_not, Bool.true_eq_false, Bool.false_eq_true, Option.some.injEq, exists_eq_left, exists_eq_left', R.d.injEq, D.int.injEq, D.bl.injEq, if_true, if_false, reduceIte, not_true_eq_false, not_false_eq_true, List.take_zero, List.take_succ_cons, and_self, Option.map_some, Bool.false_xor, Bool.and_self, Bool.true_and, Bool.and_true, Bool.true_xor]
  refine ⟨mul_ite', ?_⟩
  refine take_ok rfl (by decide) fun a ds a0 a1 => ?_
  have hb : (v - 60 + 0 * (if w = 0 then 1 else 0)).natAbs < 2 ^ 120 := by
    have h1 := p94
    have h2 := p2_mono (show 100 ≤ 120 by decide)
    omega
  have s1 : Sz 120 (Rat.divInt (v - 60 + 0 * (if w = 0 then 1 else 0)) (1 + a)) := sz_div hb (Nat.lt_of_lt_of_le (show (1 + a).natAbs < 2 ^ 10 by omega) (p2_mono (by decide))) (by omega)
  simp only [fit0, fit1, fit2, fit3, fit4, fit5, fit6, fit7, fit8, fit9, fit10, fit11, fit12, fit13, fit14, fit15, fit16, fit17, fit18, fit19, fit20, fit21, fit22, fit23, fit24, fit25, fit26, fit27, fit28, fit29, fit30, tame_int, tame_bl, tame_non, tame_tup2, tames_nil, tames_cons, w_seq, KS_nx, KS_rt, KS_bk, KS_ct, w_next, w_set, w_setM, w_drop, w_ret, w_retN, w_brk, w_cnt, w_if, w_asg, w_parB, w_parC, w_N, w_N0, w_N1, w_NT, KF_nx, KF_rt, w_fun, fin_d, fin_fr, w_fin, WE_some, WT_some, WA_some, WI_some, WS_some, WV_d, WV_fr, WV_loc, WVT_d, WVT_fr, WB_bl, WF_fr, WG_some, WO_some, WO_ite, WO_map, w_var, w_C, w_op, w_un, w_test, w_chain, w_and, w_or, w_not, w_VT, w_ifE, w_A0, w_A1, w_call, w_blt, w_curs0, w_curs1, w_vals0, w_vals1, w_tup, w_lst, w_yes, WL_loc, w_app, w_pop, w_rev, w_put, w_getI, w_isi, w_p0, w_p1, w_sl, w_lstR, w_tupR, w_newK, w_newT, KL_nx, KL_ct, KL_bk, KL_rt, wipeE, clr_nil, clr_cons, c1_none, c1_d, c1_loc, WC_z, WC_s, lt_a1, lt_a2, lt_a3, st_take2, put_lst, put_dK, kit_bb, kit_ib, kit_ii, kit_sb, kit_si, kit_ss, kit_tb, kit_ti, kit_ts, kit_tt, ty_int, ty_bl, ty_str, ty_tup, add_int, add_str, add_tup, add_lst, sub_int, mul_int', mul_lst, fdiv_int, mod_int, pow_int, neg_int, lt_int', le_int', gt_int', ge_int', is_non, isn_non, is_bl, isn_bl, isNon_int, isNon_str, isNon_tup, isNon_bl, isNon_non, len_str, len_tup, len_lst, len_frl, len_dK, int_int, int_bl, abs_int, sum_lst, any_lst, all_lst, max2_int, min2_int, tuple_lst, tuple_tup, list_lst, list_tup, ix_tup, ix_lst, ix_frl, ix_frt, sl_tup, sl_lst, tg_d, tg_fr, tg_loc, cellV_lst, cellV_dK, cellV_dT, eq_int, ne_int, eq_bl, ne_bl, in_ints_tup, in_ints_lst, atI_0, atI_1, atI_2, atI_3, st_len, st_at, st_at1, st_set, st_set1, st_take, st_take1, st_all, st_lt, List.map_cons, List.map_nil, List.length_cons, List.length_nil, List.length_map, List.getElem?_cons_zero, List.getElem?_cons_succ, List.set_cons_zero, List.set_cons_succ, List.cons_append, List.nil_append, List.append_nil, List.replicate_succ, List.replicate_zero, List.append_assoc, Nat.reduceAdd, Nat.reduceSub, Nat.reduceLT, Nat.zero_add, Nat.add_zero, true_implies, false_implies, and_true, true_and, implies_true, List.length_set, take_set, List.getElem?_set_self, Bool.not_true, decide_true, decide_false, Bool.not_false, decide_eq_true_eq, decide_eq_false_iff_not, Bool.true_eq_false, Bool.false_eq_true, Option.some.injEq, exists_eq_left, exists_eq_left', R.d.injEq, D.int.injEq, D.bl.injEq, if_true, if_false, reduceIte, not_true_eq_false, not_false_eq_true, List.take_zero, List.take_succ_cons, and_self, Option.map_some, Bool.false_xor, Bool.and_self, Bool.true_and, Bool.and_true, Bool.true_xor, lfraction_eq hb (show 0 < 1 + a by omega) (Nat.lt_of_lt_of_le (show (1 + a).natAbs < 2 ^ 10 by omega) (p2_mono (by decide))) (by decide)]
  refine take_ok rfl (by decide) fun x ds x0 x1 => ?_
  simp only [fit0, fit1, fit2, fit3, fit4, fit5, fit6, fit7, fit8, fit9, fit10, fit11, fit12, fit13, fit14, fit15, fit16, fit17, fit18, fit19, fit20, fit21, fit22, fit23, fit24, fit25, fit26, fit27, fit28, fit29, fit30, tame_int, tame_bl, tame_non, tame_tup2, tames_nil, tames_cons, w_seq, KS_nx, KS_rt, KS_bk, KS_ct, w_next, w_set, w_setM, w_drop, w_ret, w_retN, w_brk, w_cnt, w_if, w_asg, w_parB, w_parC, w_N, w_N0, w_N1, w_NT, KF_nx, KF_rt, w_fun, fin_d, fin_fr, w_fin, WE_some, WT_some, WA_some, WI_some, WS_some, WV_d, WV_fr, WV_loc, WVT_d, WVT_fr, WB_bl, WF_fr, WG_some, WO_some, WO_ite, WO_map, w_var, w_C, w_op, w_un, w_test, w_chain, w_and, w_or, w_not, w_VT, w_ifE, w_A0, w_A1, w_call, w_blt, w_curs0, w_curs1, w_vals0, w_vals1, w_tup, w_lst, w_yes, WL_loc, w_app, w_pop, w_rev, w_put, w_getI, w_isi, w_p0, w_p1, w_sl, w_lstR, w_tupR, w_newK, w_newT, KL_nx, KL_ct, KL_bk, KL_rt, wipeE, clr_nil, clr_cons, c1_none, c1_d, c1_loc, WC_z, WC_s, lt_a1, lt_a2, lt_a3, st_take2, put_lst, put_dK, kit_bb, kit_ib, kit_ii, kit_sb, kit_si, kit_ss, kit_tb, kit_ti, kit_ts, kit_tt, ty_int, ty_bl, ty_str, ty_tup, add_int, add_str, add_tup, add_lst, sub_int, mul_int', mul_lst, fdiv_int, mod_int, pow_int, neg_int, lt_int', le_int', gt_int', ge_int', is_non, isn_non, is_bl, isn_bl, isNon_int, isNon_str, isNon_tup, isNon_bl, isNon_non, len_str, len_tup, len_lst, len_frl, len_dK, int_int, int_bl, abs_int, sum_lst, any_lst, all_lst, max2_int, min2_int, tuple_lst, tuple_tup, list_lst, list_tup, ix_tup, ix_lst, ix_frl, ix_frt, sl_tup, sl_lst, tg_d, tg_fr, tg_loc, cellV_lst, cellV_dK, cellV_dT, eq_int, ne_int, eq_bl, ne_bl, in_ints_tup, in_ints_lst, atI_0, atI_1, atI_2, atI_3, st_len, st_at, st_at1, st_set, st_set1, st_take, st_take1, st_all, st_lt, List.map_cons, List.map_nil, List.length_cons, List.length_nil, List.length_map, List.getElem?_cons_zero, List.getElem?_cons_succ, List.set_cons_zero, List.set_cons_succ, List.cons_append, List.nil_append, List.append_nil, List.replicate_succ, List.replicate_zero, List.append_assoc, Nat.reduceAdd, Nat.reduceSub, Nat.reduceLT, Nat.zero_add, Nat.add_zero, true_implies, false_implies, and_true, true_and, implies_true, List.length_set, take_set, List.getElem?_set_self, Bool.not_true, decide_true, decide_false, Bool.not_false, decide_eq_true_eq, decide_eq_false_iff_not, Bool.true_eq_false, Bool.false_eq_true, Option.some.injEq, exists_eq_left, exists_eq_left', R.d.injEq, D.int.injEq, D.bl.injEq, if_true, if_false, reduceIte, not_true_eq_false, not_false_eq_true, List.take_zero, List.take_succ_cons, and_self, Option.map_some, Bool.false_xor, Bool.and_self, Bool.true_and, Bool.and_true, Bool.true_xor]
  refine take_ok rfl (by decide) fun y ds y0 y1 => ?_
  have hx : (7 + x).natAbs < 2 ^ 10 := by omega
  have hy : (1 + y).natAbs < 2 ^ 10 := by omega
  have s2 : Sz 10 (Rat.divInt (7 + x) (1 + y)) := sz_div hx hy (by omega)
  simp only [fit0, fit1, fit2, fit3, fit4, fit5, fit6, fit7, fit8, fit9, fit10, fit11, fit12, fit13, fit14, fit15, fit16, fit17, fit18, fit19, fit20, fit21, fit22, fit23, fit24, fit25, fit26, fit27, fit28, fit29, fit30, tame_int, tame_bl, tame_non, tame_tup2, tames_nil, tames_cons, w_seq, KS_nx, KS_rt, KS_bk, KS_ct, w_next, w_set, w_setM, w_drop, w_ret, w_retN, w_brk, w_cnt, w_if, w_asg, w_parB, w_parC, w_N, w_N0, w_N1, w_NT, KF_nx, KF_rt, w_fun, fin_d, fin_fr, w_fin, WE_some, WT_some, WA_some, WI_some, WS_some, WV_d, WV_fr, WV_loc, WVT_d, WVT_fr, WB_bl, WF_fr, WG_some, WO_some, WO_ite, WO_map, w_var, w_C, w_op, w_un, w_test, w_chain, w_and, w_or, w_not, w_VT, w_ifE, w_A0, w_A1, w_call, w_blt, w_curs0, w_curs1, w_vals0, w_vals1, w_tup, w_lst, w_yes, WL_loc, w_app, w_pop, w_rev, w_put, w_getI, w_isi, w_p0, w_p1, w_sl, w_lstR, w_tupR, w_newK, w_newT, KL_nx, KL_ct, KL_bk, KL_rt, wipeE, clr_nil, clr_cons, c1_none, c1_d, c1_loc, WC_z, WC_s, lt_a1, lt_a2, lt_a3, st_take2, put_lst, put_dK, kit_bb, kit_ib, kit_ii, kit_sb, kit_si, kit_ss, kit_tb, kit_ti, kit_ts, kit_tt, ty_int, ty_bl, ty_str, ty_tup, add_int, add_str, add_tup, add_lst, sub_int, mul_int', mul_lst, fdiv_int, mod_int, pow_int, neg_int, lt_int', le_int', gt_int', ge_int', is_non, isn_non, is_bl, isn_bl, isNon_int, isNon_str, isNon_tup, isNon_bl, isNon_non, len_str, len_tup, len_lst, len_frl, len_dK, int_int, int_bl, abs_int, sum_lst, any_lst, all_lst, max2_int, min2_int, tuple_lst, tuple_tup, list_lst, list_tup, ix_tup, ix_lst, ix_frl, ix_frt, sl_tup, sl_lst, tg_d, tg_fr, tg_loc, cellV_lst, cellV_dK, cellV_dT, eq_int, ne_int, eq_bl, ne_bl, in_ints_tup, in_ints_lst, atI_0, atI_1, atI_2, atI_3, st_len, st_at, st_at1, st_set, st_set1, st_take, st_take1, st_all, st_lt, List.map_cons, List.map_nil, List.length_cons, List.length_nil, List.length_map, List.getElem?_cons_zero, List.getElem?_cons_succ, List.set_cons_zero, List.set_cons_succ, List.cons_append, List.nil_append, List.append_nil, List.replicate_succ, List.replicate_zero, List.append_assoc, Nat.reduceAdd, Nat.reduceSub, Nat.reduceLT, Nat.zero_add, Nat.add_zero, true_implies, false_implies, and_true, true_and, implies_true, List.length_set, take_set, List.getElem?_set_self, Bool.not_true, decide_true, decide_false, Bool.not_false, decide_eq_true_eq, decide_eq_false_iff_not, Bool.true_eq_false, Bool.false_eq_true, Option.some.injEq, exists_eq_left, exists_eq_left', R.d.injEq, D.int.injEq, D.bl.injEq, if_true, if_false, reduceIte, not_true_eq_false, not_false_eq_true, List.take_zero, List.take_succ_cons, and_self, Option.map_some, Bool.false_xor, Bool.and_self, Bool.true_and, Bool.and_true, Bool.true_xor, lfraction_eq hx (show 0 < 1 + y by omega) hy (by decide)]
  refine h _ _ ds ⟨s1, s2, ?_⟩
  rw [Rat.divInt_eq_div, ← Rat.not_lt, Rat.div_lt_iff (by have := Rat.intCast_pos.mpr (show 0 < 1 + y by omega); exact this), Rat.one_mul, Rat.intCast_lt_intCast]
  omega
theorem one_Q : D.tup [.int 1, .int 1] = encQ 1 := rfl
theorem sz_1 : Sz 10 (1 : Rat) := ⟨by decide, by decide⟩
theorem going_on {new turn : Rat} {b : Int} {st : Sto} (m : Md new turn) (hb : b.natAbs < 2 ^ 200) : F__law_is_going_on [.d (encQ new), .d (encQ turn), .d (.int b)] st = some (.d (.bl true), st) := by
  refine of_we ?_
  have pp := p150
  unfold F__law_is_going_on
  simp only [fit0, fit1, fit2, fit3, fit4, fit5, fit6, fit7, fit8, fit9, fit10, fit11, fit12, fit13, fit14, fit15, fit16, fit17, fit18, fit19, fit20, fit21, fit22, fit23, fit24, fit25, fit26, fit27, fit28, fit29, fit30, tame_int, tame_bl, tame_non, tame_tup2, tames_nil, tames_cons, w_seq, KS_nx, KS_rt, KS_bk, KS_ct, w_next, w_set, w_setM, w_drop, w_ret, w_retN, w_brk, w_cnt, w_if, w_asg, w_parB, w_parC, w_N, w_N0, w_N1, w_NT, KF_nx, KF_rt, w_fun, fin_d, fin_fr, w_fin, WE_some, WT_some, WA_some, WI_some, WS_some, WV_d, WV_fr, WV_loc, WVT_d, WVT_fr, WB_bl, WF_fr, WG_some, WO_some, WO_ite, WO_map, w_var, w_C, w_op, w_un, w_test, w_chain, w_and, w_or, w_not, w_VT, w_ifE, w_A0, w_A1, w_call, w_blt, w_curs0, w_curs1, w_vals0, w_vals1, w_tup, w_lst, w_yes, WL_loc, w_app, w_pop, w_rev, w_put, w_getI, w_isi, w_p0, w_p1, w_sl, w_lstR, w_tupR, w_newK, w_newT, KL_nx, KL_ct, KL_bk, KL_rt, wipeE, clr_nil, clr_cons, c1_none, c1_d, c1_loc, WC_z, WC_s, lt_a1, lt_a2, lt_a3, st_take2, put_lst, put_dK, kit_bb, kit_ib, kit_ii, kit_sb, kit_si, kit_ss, kit_tb, kit_ti, kit_ts, kit_tt, ty_int, ty_bl, ty_str, ty_tup, add_int, add_str, add_tup, add_lst, sub_int, mul_int', mul_lst, fdiv_int, mod_int, pow_int, neg_int, lt_int', le_int', gt_int', ge_int', is_non, isn_non, is_bl, isn_bl, isNon_int, isNon_str, isNon_tup, isNon_bl, isNon_non, len_str, len_tup, len_lst, len_frl, len_dK, int_int, int_bl, abs_int, sum_lst, any_lst, all_lst, max2_int, min2_int, tuple_lst, tuple_tup, list_lst, list_tup, ix_tup, ix_lst, ix_frl, ix_frt, sl_tup, sl_lst, tg_d, tg_fr, tg_loc, cellV_lst, cellV_dK, cellV_dT, eq_int, ne_int, eq_bl, ne_bl, in_ints_tup, in_ints_lst, atI_0, atI_1, atI_2, atI_3, st_len, st_at, st_at1, st_set, st_set1, st_take, st_take1, st_all, st_lt, List.map_cons, List.map_nil, List.length_cons, List.length_nil, List.length_map, List.getElem?_cons_zero, List.getElem?_cons_succ, List.set_cons_zero, List.set_cons_succ, List.cons_append, List.nil_append, List.append_nil, List.replicate_succ, List.replicate_zero, List.append_assoc, Nat.reduceAdd, Nat.reduceSub, Nat.reduceLT, Nat.zero_add, Nat.add_zero, true_implies, false_implies, and_true, true_and, implies_true, List.length_set, take_set, List.getElem?_set_self, Bool.not_true, decide_true, decide_false, Bool.not_false, decide_eq_true_eq, decide_eq_false_iff_not, Bool.true_eq_false, Bool.false_eq_true, Option.some.injEq, exists_eq_left, exists_eq_left', R.d.injEq, D.int.injEq, D.bl.injEq, if_true, if_false, reduceIte, not_true_eq_false, not_false_eq_true, List.take_zero, List.take_succ_cons, and_self, Option.map_some, Bool.false_xor, Bool.and_self, Bool.true_and, Bool.and_true, Bool.true_xor]
  refine w_for (n := st.length) D.int (daysIn b (b + 30)) (fun done e s => (∃ x3 x4 x5 x6 x7, e = [some (.d (encQ new)), some (.d (encQ turn)), some (.d (.int b)), x3, x4, x5, x6, x7]) ∧ s = st) (wi_rngA ?_) ?_ ?_
  · simp only [fit0, fit1, fit2, fit3, fit4, fit5, fit6, fit7, fit8, fit9, fit10, fit11, fit12, fit13, fit14, fit15, fit16, fit17, fit18, fit19, fit20, fit21, fit22, fit23, fit24, fit25, fit26, fit27, fit28, fit29, fit30, tame_int, tame_bl, tame_non, tame_tup2, tames_nil, tames_cons, w_seq, KS_nx, KS_rt, KS_bk, KS_ct, w_next, w_set, w_setM, w_drop, w_ret, w_retN, w_brk, w_cnt, w_if, w_asg, w_parB, w_parC, w_N, w_N0, w_N1, w_NT, KF_nx, KF_rt, w_fun, fin_d, fin_fr, w_fin, WE_some, WT_some, WA_some, WI_some, WS_some, WV_d, WV_fr, WV_loc, WVT_d, WVT_fr, WB_bl, WF_fr, WG_some, WO_some, WO_ite, WO_map, w_var, w_C, w_op, w_un, w_test, w_chain, w_and, w_or, w_not, w_VT, w_ifE, w_A0, w_A1, w_call, w_blt, w_curs0, w_curs1, w_vals0, w_vals1, w_tup, w_lst, w_yes, WL_loc, w_app, w_pop, w_rev, w_put, w_getI, w_isi, w_p0, w_p1, w_sl, w_lstR, w_tupR, w_newK, w_newT, KL_nx, KL_ct, KL_bk, KL_rt, wipeE, clr_nil, clr_cons, c1_none, c1_d, c1_loc, WC_z, WC_s, lt_a1, lt_a2, lt_a3, st_take2, put_lst, put_dK, kit_bb, kit_ib, kit_ii, kit_sb, kit_si, kit_ss, kit_tb, kit_ti, kit_ts, kit_tt, ty_int, ty_bl, ty_str, ty_tup, add_int, add_str, add_tup, add_lst, sub_int, mul_int', mul_lst, fdiv_int, mod_int, pow_int, neg_int, lt_int', le_int', gt_int', ge_int', is_non, isn_non, is_bl, isn_bl, isNon_int, isNon_str, isNon_tup, isNon_bl, isNon_non, len_str, len_tup, len_lst, len_frl, len_dK, int_int, int_bl, abs_int, sum_lst, any_lst, all_lst, max2_int, min2_int, tuple_lst, tuple_tup, list_lst, list_tup, ix_tup, ix_lst, ix_frl, ix_frt, sl_tup, sl_lst, tg_d, tg_fr, tg_loc, cellV_lst, cellV_dK, cellV_dT, eq_int, ne_int, eq_bl, ne_bl, in_ints_tup, in_ints_lst, atI_0, atI_1, atI_2, atI_3, st_len, st_at, st_at1, st_set, st_set1, st_take, st_take1, st_all, st_lt, List.map_cons, List.map_nil, List.length_cons, List.length_nil, List.length_map, List.getElem?_cons_zero, List.getElem?_cons_succ, List.set_cons_zero, List.set_cons_succ, List.cons_append, List.nil_append, List.append_nil, List.replicate_succ, List.replicate_zero, List.append_assoc, Nat.reduceAdd, Nat.reduceSub, Nat.reduceLT, Nat.zero_add, Nat.add_zero, true_implies, false_implies, and_true, true_and, implies_true, List.length_set, take_set, List.getElem?_set_self, Bool.not_true, decide_true, decide_false, Bool.not_false, decide_eq_true_eq, decide_eq_false_iff_not, Bool.true_eq_false, Bool.false_eq_true, Option.some.injEq, exists_eq_left, exists_eq_left', R.d.injEq, D.int.injEq, D.bl.injEq, if_true, if_false, reduceIte, not_true_eq_false, not_false_eq_true, List.take_zero, List.take_succ_cons, and_self, Option.map_some, Bool.false_xor, Bool.and_self, Bool.true_and, Bool.and_true, Bool.true_xor]
    exact ⟨rg_days _ _, ⟨_, _, _, _, _, rfl⟩, fun _ _ _ _ => trivial⟩
  · rintro done d rest e s he ⟨⟨x3, x4, x5, x6, x7, rfl⟩, rfl⟩
    have hd : d ∈ daysIn b (b + 30) := by rw [he]; simp
    rw [mem_daysIn] at hd
    have hd1 : d.natAbs < 2 ^ 300 := by omega
    have hd2 : (d + 1).natAbs < 2 ^ 300 := by omega
    have hd3 : (d + 2).natAbs < 2 ^ 300 := by omega
    have s1 := sz_age m.mo hd1
    have s2 := sz_age m.mo hd2
    have s3 : Sz 1914 (mAge new turn d + 1) := s1.add sz_1
    have s4 := s3.div m.t m.mo.ne
    have s5 : Sz 1950 ((((mAge new turn d + 1) / turn).floor : Int) : Rat) := sz_int (lt2 s4.floor) (by decide)
    have s6 := m.t.mul s5
    have sw : Sz 300 ((d + 1 : Int) : Rat) := sz_int hd2 (by decide)
    simp (maxSteps := 4000000) only [fit0, fit1, fit2, fit3, fit4, fit5, fit6, fit7, fit8, fit9, fit10, fit11, fit12, fit13, fit14, fit15, fit16, fit17, fit18, fit19, fit20, fit21, fit22, fit23, fit24, fit25, fit26, fit27, fit28, fit29, fit30, tame_int, tame_bl, tame_non, tame_tup2, tames_nil, tames_cons, w_seq, KS_nx, KS_rt, KS_bk, KS_ct, w_next, w_set, w_setM, w_drop, w_ret, w_retN, w_brk, w_cnt, w_if, w_asg, w_parB, w_parC, w_N, w_N0, w_N1, w_NT, KF_nx, KF_rt, w_fun, fin_d, fin_fr, w_fin, WE_some, WT_some, WA_some, WI_some, WS_some, WV_d, WV_fr, WV_loc, WVT_d, WVT_fr, WB_bl, WF_fr, WG_some, WO_some, WO_ite, WO_map, w_var, w_C, w_op, w_un, w_test, w_chain, w_and, w_or, w_not, w_VT, w_ifE, w_A0, w_A1, w_call, w_blt, w_curs0, w_curs1, w_vals0, w_vals1, w_tup, w_lst, w_yes, WL_loc, w_app, w_pop, w_rev, w_put, w_getI, w_isi, w_p0, w_p1, w_sl, w_lstR, w_tupR, w_newK, w_newT, KL_nx, KL_ct, KL_bk, KL_rt, wipeE, clr_nil, clr_cons, c1_none, c1_d, c1_loc, WC_z, WC_s, lt_a1, lt_a2, lt_a3, st_take2, put_lst, put_dK, kit_bb, kit_ib, kit_ii, kit_sb, kit_si, kit_ss, kit_tb, kit_ti, kit_ts, kit_tt, ty_int, ty_bl, ty_str, ty_tup, add_int, add_str, add_tup, add_lst, sub_int, mul_int', mul_lst, fdiv_int, mod_int, pow_int, neg_int, lt_int', le_int', gt_int', ge_int', is_non, isn_non, is_bl, isn_bl, isNon_int, isNon_str, isNon_tup, isNon_bl, isNon_non, len_str, len_tup, len_lst, len_frl, len_dK, int_int, int_bl, abs_int, sum_lst, any_lst, all_lst, max2_int, min2_int, tuple_lst, tuple_tup, list_lst, list_tup, ix_tup, ix_lst, ix_frl, ix_frt, sl_tup, sl_lst, tg_d, tg_fr, tg_loc, cellV_lst, cellV_dK, cellV_dT, eq_int, ne_int, eq_bl, ne_bl, in_ints_tup, in_ints_lst, atI_0, atI_1, atI_2, atI_3, st_len, st_at, st_at1, st_set, st_set1, st_take, st_take1, st_all, st_lt, List.map_cons, List.map_nil, List.length_cons, List.length_nil, List.length_map, List.getElem?_cons_zero, List.getElem?_cons_succ, List.set_cons_zero, List.set_cons_succ, List.cons_append, List.nil_append, List.append_nil, List.replicate_succ, List.replicate_zero, List.append_assoc, Nat.reduceAdd, Nat.reduceSub, Nat.reduceLT, Nat.zero_add, Nat.add_zero, true_implies, false_implies, and_true, true_and, implies_true, List.length_set, take_set, List.getElem?_set_self, Bool.not_true, decide_true, decide_false, Bool.not_false, decide_eq_true_eq, decide_eq_false_iff_not, Bool.true_eq_false, Bool.false_eq_true, Option.some.injEq, exists_eq_left, exists_eq_left', R.d.injEq, D.int.injEq, D.bl.injEq, if_true, if_false, reduceIte, not_true_eq_false, not_false_eq_true, List.take_zero, List.take_succ_cons, and_self, Option.map_some, Bool.false_xor, Bool.and_self, Bool.true_and, Bool.and_true, Bool.true_xor, one_Q, four_Q, zero_Q, age_eq m.mo hd1, age_eq m.mo hd2, between_eq m.mo hd2 hd3, lplus_eq (sz_big s1) (sz_big sz_1), lless_eq (sz_big s3) (sz_big m.mo.t), ne_Q, eq_Q, lover_eq (sz_big s3) (sz_big m.mo.t) m.mo.pos, lfloor_eq s4 (by decide), lwhole_eq, ltimes_eq (sz_big m.mo.t) (sz_big s5), lminus_eq (sz_big s3) (sz_big s6), lless_eq (sz_big sz_4) (sz_big m.mo.t), quarter_eq m.mo hd1, quarter_eq m.mo hd2, next_new_eq m.mo hd2, ← age_zero m.mo.pos (d + 1)]
    have hA := grown_less m.mo.pos (new := new) d
    have hB := grown m.mo.pos (new := new) d
    have hq := fun h => quarters_on (new := new) (turn := turn) h d
    have hm := fun h => nxt_grows m.mo.pos (new := new) (d := d + 1) h
    rw [show d + 1 + 1 = d + 2 by omega] at hm
    clear s1 s2 s3 s4 s5 s6 sw hd1 hd2 hd3 hd hb pp he
    repeat' (first | refine And.intro ?_ ?_ | intro _)
    all_goals first | exact ⟨_, _, _, _, _, rfl⟩ | grind
  · rintro e s ⟨⟨x3, x4, x5, x6, x7, rfl⟩, rfl⟩
    simp only [fit0, fit1, fit2, fit3, fit4, fit5, fit6, fit7, fit8, fit9, fit10, fit11, fit12, fit13, fit14, fit15, fit16, fit17, fit18, fit19, fit20, fit21, fit22, fit23, fit24, fit25, fit26, fit27, fit28, fit29, fit30, tame_int, tame_bl, tame_non, tame_tup2, tames_nil, tames_cons, w_seq, KS_nx, KS_rt, KS_bk, KS_ct, w_next, w_set, w_setM, w_drop, w_ret, w_retN, w_brk, w_cnt, w_if, w_asg, w_parB, w_parC, w_N, w_N0, w_N1, w_NT, KF_nx, KF_rt, w_fun, fin_d, fin_fr, w_fin, WE_some, WT_some, WA_some, WI_some, WS_some, WV_d, WV_fr, WV_loc, WVT_d, WVT_fr, WB_bl, WF_fr, WG_some, WO_some, WO_ite, WO_map, w_var, w_C, w_op, w_un, w_test, w_chain, w_and, w_or, w_not, w_VT, w_ifE, w_A0, w_A1, w_call, w_blt, w_curs0, w_curs1, w_vals0, w_vals1, w_tup, w_lst, w_yes, WL_loc, w_app, w_pop, w_rev, w_put, w_getI, w_isi, w_p0, w_p1, w_sl, w_lstR, w_tupR, w_newK, w_newT, KL_nx, KL_ct, KL_bk, KL_rt, wipeE, clr_nil, clr_cons, c1_none, c1_d, c1_loc, WC_z, WC_s, lt_a1, lt_a2, lt_a3, st_take2, put_lst, put_dK, kit_bb, kit_ib, kit_ii, kit_sb, kit_si, kit_ss, kit_tb, kit_ti, kit_ts, kit_tt, ty_int, ty_bl, ty_str, ty_tup, add_int, add_str, add_tup, add_lst, sub_int, mul_int', mul_lst, fdiv_int, mod_int, pow_int, neg_int, lt_int', le_int', gt_int', ge_int', is_non, isn_non, is_bl, isn_bl, isNon_int, isNon_str, isNon_tup, isNon_bl, isNon_non, len_str, len_tup, len_lst, len_frl, len_dK, int_int, int_bl, abs_int, sum_lst, any_lst, all_lst, max2_int, min2_int, tuple_lst, tuple_tup, list_lst, list_tup, ix_tup, ix_lst, ix_frl, ix_frt, sl_tup, sl_lst, tg_d, tg_fr, tg_loc, cellV_lst, cellV_dK, cellV_dT, eq_int, ne_int, eq_bl, ne_bl, in_ints_tup, in_ints_lst, atI_0, atI_1, atI_2, atI_3, st_len, st_at, st_at1, st_set, st_set1, st_take, st_take1, st_all, st_lt, List.map_cons, List.map_nil, List.length_cons, List.length_nil, List.length_map, List.getElem?_cons_zero, List.getElem?_cons_succ, List.set_cons_zero, List.set_cons_succ, List.cons_append, List.nil_append, List.append_nil, List.replicate_succ, List.replicate_zero, List.append_assoc, Nat.reduceAdd, Nat.reduceSub, Nat.reduceLT, Nat.zero_add, Nat.add_zero, true_implies, false_implies, and_true, true_and, implies_true, List.length_set, take_set, List.getElem?_set_self, Bool.not_true, decide_true, decide_false, Bool.not_false, decide_eq_true_eq, decide_eq_false_iff_not, Bool.true_eq_false, Bool.false_eq_true, Option.some.injEq, exists_eq_left, exists_eq_left', R.d.injEq, D.int.injEq, D.bl.injEq, if_true, if_false, reduceIte, not_true_eq_false, not_false_eq_true, List.take_zero, List.take_succ_cons, and_self, Option.map_some, Bool.false_xor, Bool.and_self, Bool.true_and, Bool.and_true, Bool.true_xor]
end K92

set_option Elab.async false
set_option linter.all false
set_option maxRecDepth 100000
set_option maxHeartbeats 4000000
namespace K92
open PySem DL
open L2 (atI)
theorem ne_self {l : List Int} : opNe (.tup (l.map D.int)) (.tup (l.map D.int)) = some (.d (.bl false)) := by
  have hp : plainD 2 (.tup (l.map D.int)) = true := by rw [plainD]; exact plains_ints 1 l
  rw [ne_plain hp hp (by decide)]; simp
theorem days_split {b c e : Int} (h1 : b ≤ c) (h2 : c ≤ e) : daysIn b e = daysIn b c ++ daysIn c e := by
  unfold daysIn
  rw [show (e - b).toNat = (c - b).toNat + (e - c).toNat by omega, List.range_add, List.map_append, List.map_map]
  congr 1
  refine List.map_congr_left fun i _ => ?_
  show b + (((c - b).toNat + i : Nat) : Int) = c + (i : Int)
  omega
theorem spr_one {new turn : Rat} {d : Int} : decide (0 < (((daysIn (d - 0) (d + 0 + 1)).filter (mSpr new turn)).length : Int)) = mSpr new turn d := by
  rw [show d - 0 = d by omega, show d + 0 + 1 = d + 1 by omega]
  have : daysIn d (d + 1) = [d] := by unfold daysIn; rw [show (d + 1 - d).toNat = 1 by omega]; simp
  rw [this]
  by_cases h : mSpr new turn d = true
  · rw [List.filter_cons_of_pos h]; simp [h]
  · rw [List.filter_cons_of_neg h]; simp at h; simp [h]
theorem lt1024 {q : Rat} (h : Sz 10 q) : q ≤ 1024 := by
  rw [Rat.le_iff]
  have h1 := h.1
  have h2 := den_pos' q
  show q.num * 1 ≤ 1024 * (q.den : Int)
  omega
theorem moons_right {new turn : Rat} {b e : Int} {ds : List Int} (m : Md new turn) (hb : -1000 < b ∧ b < 1000) (hbe : b ≤ e) (he : e - b < 300) {Q : R → Sto → Prop} (h : ∀ ds' : List Int, Q (.d (.bl true)) [.lst (ds'.map D.int)]) :
    WE (F__law_are_moons_right [.loc 0, .d (encQ new), .d (encQ turn), .d (.int b), .d (.int e)] [.lst (ds.map D.int)]) Q := by
  have pp := p150
  have pq := p300
  have hpos := m.mo.pos
  unfold F__law_are_moons_right
  simp (maxSteps := 4000000) only [fit0, fit1, fit2, fit3, fit4, fit5, fit6, fit7, fit8, fit9, fit10, fit11, fit12, fit13, fit14, fit15, fit16, fit17, fit18, fit19, fit20, fit21, fit22, fit23, fit24, fit25, fit26, fit27, fit28, fit29, fit30, tame_int, tame_bl, tame_non, tame_tup2, tames_nil, tames_cons, w_seq, KS_nx, KS_rt, KS_bk, KS_ct, w_next, w_set, w_setM, w_drop, w_ret, w_retN, w_brk, w_cnt, w_if, w_asg, w_parB, w_parC, w_N, w_N0, w_N1, w_NT, KF_nx, KF_rt, w_fun, fin_d, fin_fr, w_fin, WE_some, WT_some, WA_some, WI_some, WS_some, WV_d, WV_fr, WV_loc, WVT_d, WVT_fr, WB_bl, WF_fr, WG_some, WO_some, WO_ite, WO_map, w_var, w_C, w_op, w_un, w_test, w_chain, w_and, w_or, w_not, w_VT, w_ifE, w_A0, w_A1, w_call, w_blt, w_curs0, w_curs1, w_vals0, w_vals1, w_tup, w_lst, w_yes, WL_loc, w_app, w_pop, w_rev, w_put, w_getI, w_isi, w_p0, w_p1, w_sl, w_lstR, w_tupR, w_newK, w_newT, KL_nx, KL_ct, KL_bk, KL_rt, wipeE, clr_nil, clr_cons, c1_none, c1_d, c1_loc, WC_z, WC_s, lt_a1, lt_a2, lt_a3, st_take2, put_lst, put_dK, kit_bb, kit_ib, kit_ii, kit_sb, kit_si, kit_ss, kit_tb, kit_ti, kit_ts, kit_tt, ty_int, ty_bl, ty_str, ty_tup, add_int, add_str, add_tup, add_lst, sub_int, mul_int', mul_lst, fdiv_int, mod_int, pow_int, neg_int, lt_int', le_int', gt_int', ge_int', is_non, isn_non, is_bl, isn_bl, isNon_int, isNon_str, isNon_tup, isNon_bl, isNon_non, len_str, len_tup, len_lst, len_frl, len_dK, int_int, int_bl, abs_int, sum_lst, any_lst, all_lst, max2_int, min2_int, tuple_lst, tuple_tup, list_lst, list_tup, ix_tup, ix_lst, ix_frl, ix_frt, sl_tup, sl_lst, tg_d, tg_fr, tg_loc, cellV_lst, cellV_dK, cellV_dT, eq_int, ne_int, eq_bl, ne_bl, in_ints_tup, in_ints_lst, atI_0, atI_1, atI_2, atI_3, st_len, st_at, st_at1, st_set, st_set1, st_take, st_take1, st_all, st_lt, List.map_cons, List.map_nil, List.length_cons, List.length_nil, List.length_map, List.getElem?_cons_zero, List.getElem?_cons_succ, List.set_cons_zero, List.set_cons_succ, List.cons_append, List.nil_append, List.append_nil, List.replicate_succ, List.replicate_zero, List.append_assoc, Nat.reduceAdd, Nat.reduceSub, Nat.reduceLT, Nat.zero_add, Nat.add_zero, true_implies, false_implies, and_true, true_and, implies_true, List.length_set, take_set, List.getElem?_set_self, Bool.not_true, decide_true, decide_false, Bool.not_false, decide_eq_true_eq, decide_eq_false_iff_not, Bool.true_eq_false, Bool.false_eq_true, Option.some.injEq, exists_eq_left, exists_eq_left', R.d.injEq, D.int.injEq, D.bl.injEq, if_true, if_false, reduceIte, not_true_eq_false, not_false_eq_true, List.take_zero, List.take_succ_cons, and_self, Option.map_some, Bool.false_xor, Bool.and_self, Bool.true_and, Bool.and_true, Bool.true_xor]
  refine take_ok rfl (by omega) fun v ds v0 v1 => ?_
  obtain ⟨c, hc⟩ : ∃ c, b + v = c := ⟨_, rfl⟩
  have hb3 : b.natAbs < 2 ^ 300 := by omega
  have hc3 : c.natAbs < 2 ^ 300 := by omega
  have he3 : e.natAbs < 2 ^ 300 := by omega
  have n1 := nxt_mono hpos (new := new) (show b ≤ c by omega)
  have n2 := nxt_mono hpos (new := new) (show c ≤ e by omega)
  have hsum : max (mNxt new turn c - mNxt new turn b) 0 + max (mNxt new turn e - mNxt new turn c) 0 = max (mNxt new turn e - mNxt new turn b) 0 := by omega
  obtain ⟨sp1, sp2⟩ := nxt_span hpos (new := new) hbe
  have c1 : (((e - b : Int) : Rat) / turn).floor ≤ max (mNxt new turn e - mNxt new turn b) 0 := by omega
  have c2 : max (mNxt new turn e - mNxt new turn b) 0 ≤ (((e - b : Int) : Rat) / turn).floor + 1 := by omega
  have s1 : Sz 300 ((e - b : Int) : Rat) := sz_int (by omega) (by decide)
  have s2 := s1.div m.mo.t m.mo.ne
  have hsp : ((daysIn b c).filter (mSpr new turn)).map D.int ++ ((daysIn c e).filter (mSpr new turn)).map D.int = ((daysIn b e).filter (mSpr new turn)).map D.int := by
    rw [days_split (show b ≤ c by omega) (show c ≤ e by omega), List.filter_append, List.map_append]
  have hf1 := List.length_filter_le (mSpr new turn) (daysIn b c)
  have hf2 := List.length_filter_le (mSpr new turn) (daysIn c e)
  rw [len_daysIn] at hf1 hf2
  have hft : fits (((daysIn b c).filter (mSpr new turn)).length + ((daysIn c e).filter (mSpr new turn)).length) := fits_small (by omega)
  simp (maxSteps := 4000000) only [fit0, fit1, fit2, fit3, fit4, fit5, fit6, fit7, fit8, fit9, fit10, fit11, fit12, fit13, fit14, fit15, fit16, fit17, fit18, fit19, fit20, fit21, fit22, fit23, fit24, fit25, fit26, fit27, fit28, fit29, fit30, tame_int, tame_bl, tame_non, tame_tup2, tames_nil, tames_cons, w_seq, KS_nx, KS_rt, KS_bk, KS_ct, w_next, w_set, w_setM, w_drop, w_ret, w_retN, w_brk, w_cnt, w_if, w_asg, w_parB, w_parC, w_N, w_N0, w_N1, w_NT, KF_nx, KF_rt, w_fun, fin_d, fin_fr, w_fin, WE_some, WT_some, WA_some, WI_some, WS_some, WV_d, WV_fr, WV_loc, WVT_d, WVT_fr, WB_bl, WF_fr, WG_some, WO_some, WO_ite, WO_map, w_var, w_C, w_op, w_un, w_test, w_chain, w_and, w_or, w_not, w_VT, w_ifE, w_A0, w_A1, w_call, w_blt, w_curs0, w_curs1, w_vals0, w_vals1, w_tup, w_lst, w_yes, WL_loc, w_app, w_pop, w_rev, w_put, w_getI, w_isi, w_p0, w_p1, w_sl, w_lstR, w_tupR, w_newK, w_newT, KL_nx, KL_ct, KL_bk, KL_rt, wipeE, clr_nil, clr_cons, c1_none, c1_d, c1_loc, WC_z, WC_s, lt_a1, lt_a2, lt_a3, st_take2, put_lst, put_dK, kit_bb, kit_ib, kit_ii, kit_sb, kit_si, kit_ss, kit_tb, kit_ti, kit_ts, kit_tt, ty_int, ty_bl, ty_str, ty_tup, add_int, add_str, add_tup, add_lst, sub_int, mul_int', mul_lst, fdiv_int, mod_int, pow_int, neg_int, lt_int', le_int', gt_int', ge_int', is_non, isn_non, is_bl, isn_bl, isNon_int, isNon_str, isNon_tup, isNon_bl, isNon_non, len_str, len_tup, len_lst, len_frl, len_dK, int_int, int_bl, abs_int, sum_lst, any_lst, all_lst, max2_int, min2_int, tuple_lst, tuple_tup, list_lst, list_tup, ix_tup, ix_lst, ix_frl, ix_frt, sl_tup, sl_lst, tg_d, tg_fr, tg_loc, cellV_lst, cellV_dK, cellV_dT, eq_int, ne_int, eq_bl, ne_bl, in_ints_tup, in_ints_lst, atI_0, atI_1, atI_2, atI_3, st_len, st_at, st_at1, st_set, st_set1, st_take, st_take1, st_all, st_lt, List.map_cons, List.map_nil, List.length_cons, List.length_nil, List.length_map, List.getElem?_cons_zero, List.getElem?_cons_succ, List.set_cons_zero, List.set_cons_succ, List.cons_append, List.nil_append, List.append_nil, List.replicate_succ, List.replicate_zero, List.append_assoc, Nat.reduceAdd, Nat.reduceSub, Nat.reduceLT, Nat.zero_add, Nat.add_zero, true_implies, false_implies, and_true, true_and, implies_true, List.length_set, take_set, List.getElem?_set_self, Bool.not_true, decide_true, decide_false, Bool.not_false, decide_eq_true_eq, decide_eq_false_iff_not, Bool.true_eq_false, Bool.false_eq_true, Option.some.injEq, exists_eq_left, exists_eq_left', R.d.injEq, D.int.injEq, D.bl.injEq, if_true, if_false, reduceIte, not_true_eq_false, not_false_eq_true, List.take_zero, List.take_succ_cons, and_self, Option.map_some, Bool.false_xor, Bool.and_self, Bool.true_and, Bool.and_true, Bool.true_xor, hc, between_eq m.mo hb3 he3, between_eq m.mo hb3 hc3, between_eq m.mo hc3 he3, hsum, lwhole_eq, lover_eq (sz_big s1) (sz_big m.mo.t) hpos, lfloor_eq s2 (by decide), c1, c2, spring_eq m.mo hb3 hbe (show e - b < 1000 by omega), spring_eq m.mo hb3 (show b ≤ c by omega) (show c - b < 1000 by omega), spring_eq m.mo hc3 (show c ≤ e by omega) (show e - c < 1000 by omega), hsp, hft, ne_self]
  refine w_for (n := 1) D.int (daysIn b (min e (b + 40))) (fun done env s => (∃ x5 x6 x7 x9 x10 x11 x12, env = [some (.loc 0), some (.d (encQ new)), some (.d (encQ turn)), some (.d (.int b)), some (.d (.int e)), x5, x6, x7, some (.d (.tup (((daysIn b e).filter (mSpr new turn)).map D.int))), x9, x10, x11, x12]) ∧ s = [.lst (ds.map D.int)]) (wi_rng2 ?_) ?_ ?_
  · simp (maxSteps := 4000000) only [fit0, fit1, fit2, fit3, fit4, fit5, fit6, fit7, fit8, fit9, fit10, fit11, fit12, fit13, fit14, fit15, fit16, fit17, fit18, fit19, fit20, fit21, fit22, fit23, fit24, fit25, fit26, fit27, fit28, fit29, fit30, tame_int, tame_bl, tame_non, tame_tup2, tames_nil, tames_cons, w_seq, KS_nx, KS_rt, KS_bk, KS_ct, w_next, w_set, w_setM, w_drop, w_ret, w_retN, w_brk, w_cnt, w_if, w_asg, w_parB, w_parC, w_N, w_N0, w_N1, w_NT, KF_nx, KF_rt, w_fun, fin_d, fin_fr, w_fin, WE_some, WT_some, WA_some, WI_some, WS_some, WV_d, WV_fr, WV_loc, WVT_d, WVT_fr, WB_bl, WF_fr, WG_some, WO_some, WO_ite, WO_map, w_var, w_C, w_op, w_un, w_test, w_chain, w_and, w_or, w_not, w_VT, w_ifE, w_A0, w_A1, w_call, w_blt, w_curs0, w_curs1, w_vals0, w_vals1, w_tup, w_lst, w_yes, WL_loc, w_app, w_pop, w_rev, w_put, w_getI, w_isi, w_p0, w_p1, w_sl, w_lstR, w_tupR, w_newK, w_newT, KL_nx, KL_ct, KL_bk, KL_rt, wipeE, clr_nil, clr_cons, c1_none, c1_d, c1_loc, WC_z, WC_s, lt_a1, lt_a2, lt_a3, st_take2, put_lst, put_dK, kit_bb, kit_ib, kit_ii, kit_sb, kit_si, kit_ss, kit_tb, kit_ti, kit_ts, kit_tt, ty_int, ty_bl, ty_str, ty_tup, add_int, add_str, add_tup, add_lst, sub_int, mul_int', mul_lst, fdiv_int, mod_int, pow_int, neg_int, lt_int', le_int', gt_int', ge_int', is_non, isn_non, is_bl, isn_bl, isNon_int, isNon_str, isNon_tup, isNon_bl, isNon_non, len_str, len_tup, len_lst, len_frl, len_dK, int_int, int_bl, abs_int, sum_lst, any_lst, all_lst, max2_int, min2_int, tuple_lst, tuple_tup, list_lst, list_tup, ix_tup, ix_lst, ix_frl, ix_frt, sl_tup, sl_lst, tg_d, tg_fr, tg_loc, cellV_lst, cellV_dK, cellV_dT, eq_int, ne_int, eq_bl, ne_bl, in_ints_tup, in_ints_lst, atI_0, atI_1, atI_2, atI_3, st_len, st_at, st_at1, st_set, st_set1, st_take, st_take1, st_all, st_lt, List.map_cons, List.map_nil, List.length_cons, List.length_nil, List.length_map, List.getElem?_cons_zero, List.getElem?_cons_succ, List.set_cons_zero, List.set_cons_succ, List.cons_append, List.nil_append, List.append_nil, List.replicate_succ, List.replicate_zero, List.append_assoc, Nat.reduceAdd, Nat.reduceSub, Nat.reduceLT, Nat.zero_add, Nat.add_zero, true_implies, false_implies, and_true, true_and, implies_true, List.length_set, take_set, List.getElem?_set_self, Bool.not_true, decide_true, decide_false, Bool.not_false, decide_eq_true_eq, decide_eq_false_iff_not, Bool.true_eq_false, Bool.false_eq_true, Option.some.injEq, exists_eq_left, exists_eq_left', R.d.injEq, D.int.injEq, D.bl.injEq, if_true, if_false, reduceIte, not_true_eq_false, not_false_eq_true, List.take_zero, List.take_succ_cons, and_self, Option.map_some, Bool.false_xor, Bool.and_self, Bool.true_and, Bool.and_true, Bool.true_xor]
    exact ⟨sm_int (by omega) (by omega), sm_int (by omega) (by omega), rg_days _ _, ⟨_, _, _, _, _, _, _, rfl⟩, fun _ _ _ _ => trivial⟩
  · rintro done d rest env s hd ⟨⟨x5, x6, x7, x9, x10, x11, x12, rfl⟩, rfl⟩
    have hdm : d ∈ daysIn b (min e (b + 40)) := by rw [hd]; simp
    rw [mem_daysIn] at hdm
    have hin : decide (d ∈ (daysIn b e).filter (mSpr new turn)) = mSpr new turn d := by
      refine Bool.eq_iff_iff.mpr ?_
      rw [decide_eq_true_eq, List.mem_filter, mem_daysIn]
      constructor
      · exact fun q => q.2
      · exact fun q => ⟨by omega, q⟩
    simp (maxSteps := 4000000) only [fit0, fit1, fit2, fit3, fit4, fit5, fit6, fit7, fit8, fit9, fit10, fit11, fit12, fit13, fit14, fit15, fit16, fit17, fit18, fit19, fit20, fit21, fit22, fit23, fit24, fit25, fit26, fit27, fit28, fit29, fit30, tame_int, tame_bl, tame_non, tame_tup2, tames_nil, tames_cons, w_seq, KS_nx, KS_rt, KS_bk, KS_ct, w_next, w_set, w_setM, w_drop, w_ret, w_retN, w_brk, w_cnt, w_if, w_asg, w_parB, w_parC, w_N, w_N0, w_N1, w_NT, KF_nx, KF_rt, w_fun, fin_d, fin_fr, w_fin, WE_some, WT_some, WA_some, WI_some, WS_some, WV_d, WV_fr, WV_loc, WVT_d, WVT_fr, WB_bl, WF_fr, WG_some, WO_some, WO_ite, WO_map, w_var, w_C, w_op, w_un, w_test, w_chain, w_and, w_or, w_not, w_VT, w_ifE, w_A0, w_A1, w_call, w_blt, w_curs0, w_curs1, w_vals0, w_vals1, w_tup, w_lst, w_yes, WL_loc, w_app, w_pop, w_rev, w_put, w_getI, w_isi, w_p0, w_p1, w_sl, w_lstR, w_tupR, w_newK, w_newT, KL_nx, KL_ct, KL_bk, KL_rt, wipeE, clr_nil, clr_cons, c1_none, c1_d, c1_loc, WC_z, WC_s, lt_a1, lt_a2, lt_a3, st_take2, put_lst, put_dK, kit_bb, kit_ib, kit_ii, kit_sb, kit_si, kit_ss, kit_tb, kit_ti, kit_ts, kit_tt, ty_int, ty_bl, ty_str, ty_tup, add_int, add_str, add_tup, add_lst, sub_int, mul_int', mul_lst, fdiv_int, mod_int, pow_int, neg_int, lt_int', le_int', gt_int', ge_int', is_non, isn_non, is_bl, isn_bl, isNon_int, isNon_str, isNon_tup, isNon_bl, isNon_non, len_str, len_tup, len_lst, len_frl, len_dK, int_int, int_bl, abs_int, sum_lst, any_lst, all_lst, max2_int, min2_int, tuple_lst, tuple_tup, list_lst, list_tup, ix_tup, ix_lst, ix_frl, ix_frt, sl_tup, sl_lst, tg_d, tg_fr, tg_loc, cellV_lst, cellV_dK, cellV_dT, eq_int, ne_int, eq_bl, ne_bl, in_ints_tup, in_ints_lst, atI_0, atI_1, atI_2, atI_3, st_len, st_at, st_at1, st_set, st_set1, st_take, st_take1, st_all, st_lt, List.map_cons, List.map_nil, List.length_cons, List.length_nil, List.length_map, List.getElem?_cons_zero, List.getElem?_cons_succ, List.set_cons_zero, List.set_cons_succ, List.cons_append, List.nil_append, List.append_nil, List.replicate_succ, List.replicate_zero, List.append_assoc, Nat.reduceAdd, Nat.reduceSub, Nat.reduceLT, Nat.zero_add, Nat.add_zero, true_implies, false_implies, and_true, true_and, implies_true, List.length_set, take_set, List.getElem?_set_self, Bool.not_true, decide_true, decide_false, Bool.not_false, decide_eq_true_eq, decide_eq_false_iff_not, Bool.true_eq_false, Bool.false_eq_true, Option.some.injEq, exists_eq_left, exists_eq_left', R.d.injEq, D.int.injEq, D.bl.injEq, if_true, if_false, reduceIte, not_true_eq_false, not_false_eq_true, List.take_zero, List.take_succ_cons, and_self, Option.map_some, Bool.false_xor, Bool.and_self, Bool.true_and, Bool.and_true, Bool.true_xor, is_spring_eq m.mo (show d.natAbs < 2 ^ 290 by omega) (show (0 : Int) ≤ 0 by decide) (show (0 : Int) < 100 by decide), spr_one, hin]
    exact ⟨_, _, _, _, _, _, _, rfl⟩
  · rintro env s ⟨⟨x5, x6, x7, x9, x10, x11, x12, rfl⟩, rfl⟩
    simp (maxSteps := 4000000) only [fit0, fit1, fit2, fit3, fit4, fit5, fit6, fit7, fit8, fit9, fit10, fit11, fit12, fit13, fit14, fit15, fit16, fit17, fit18, fit19, fit20, fit21, fit22, fit23, fit24, fit25, fit26, fit27, fit28, fit29, fit30, tame_int, tame_bl, tame_non, tame_tup2, tames_nil, tames_cons, w_seq, KS_nx, KS_rt, KS_bk, KS_ct, w_next, w_set, w_setM, w_drop, w_ret, w_retN, w_brk, w_cnt, w_if, w_asg, w_parB, w_parC, w_N, w_N0, w_N1, w_NT, KF_nx, KF_rt, w_fun, fin_d, fin_fr, w_fin, WE_some, WT_some, WA_some, WI_some, WS_some, WV_d, WV_fr, WV_loc, WVT_d, WVT_fr, WB_bl, WF_fr, WG_some, WO_some, WO_ite, WO_map, w_var, w_C, w_op, w_un, w_test, w_chain, w_and, w_or, w_not, w_VT, w_ifE, w_A0, w_A1, w_call, w_blt, w_curs0, w_curs1, w_vals0, w_vals1, w_tup, w_lst, w_yes, WL_loc, w_app, w_pop, w_rev, w_put, w_getI, w_isi, w_p0, w_p1, w_sl, w_lstR, w_tupR, w_newK, w_newT, KL_nx, KL_ct, KL_bk, KL_rt, wipeE, clr_nil, clr_cons, c1_none, c1_d, c1_loc, WC_z, WC_s, lt_a1, lt_a2, lt_a3, st_take2, put_lst, put_dK, kit_bb, kit_ib, kit_ii, kit_sb, kit_si, kit_ss, kit_tb, kit_ti, kit_ts, kit_tt, ty_int, ty_bl, ty_str, ty_tup, add_int, add_str, add_tup, add_lst, sub_int, mul_int', mul_lst, fdiv_int, mod_int, pow_int, neg_int, lt_int', le_int', gt_int', ge_int', is_non, isn_non, is_bl, isn_bl, isNon_int, isNon_str, isNon_tup, isNon_bl, isNon_non, len_str, len_tup, len_lst, len_frl, len_dK, int_int, int_bl, abs_int, sum_lst, any_lst, all_lst, max2_int, min2_int, tuple_lst, tuple_tup, list_lst, list_tup, ix_tup, ix_lst, ix_frl, ix_frt, sl_tup, sl_lst, tg_d, tg_fr, tg_loc, cellV_lst, cellV_dK, cellV_dT, eq_int, ne_int, eq_bl, ne_bl, in_ints_tup, in_ints_lst, atI_0, atI_1, atI_2, atI_3, st_len, st_at, st_at1, st_set, st_set1, st_take, st_take1, st_all, st_lt, List.map_cons, List.map_nil, List.length_cons, List.length_nil, List.length_map, List.getElem?_cons_zero, List.getElem?_cons_succ, List.set_cons_zero, List.set_cons_succ, List.cons_append, List.nil_append, List.append_nil, List.replicate_succ, List.replicate_zero, List.append_assoc, Nat.reduceAdd, Nat.reduceSub, Nat.reduceLT, Nat.zero_add, Nat.add_zero, true_implies, false_implies, and_true, true_and, implies_true, List.length_set, take_set, List.getElem?_set_self, Bool.not_true, decide_true, decide_false, Bool.not_false, decide_eq_true_eq, decide_eq_false_iff_not, Bool.true_eq_false, Bool.false_eq_true, Option.some.injEq, exists_eq_left, exists_eq_left', R.d.injEq, D.int.injEq, D.bl.injEq, if_true, if_false, reduceIte, not_true_eq_false, not_false_eq_true, List.take_zero, List.take_succ_cons, and_self, Option.map_some, Bool.false_xor, Bool.and_self, Bool.true_and, Bool.and_true, Bool.true_xor, next_new_eq m.mo hb3]
    have ht := lt1024 m.t
    have b1 := nxt_at hpos (new := new) b
    have b2 : mNew new turn (mNxt new turn b) ≤ b + turn := by
      have h1 := (rnd_at hpos (new := new) b).1
      unfold mNxt
      split
      · grind
      · rw [mNew_add, one_cast]; grind
    refine w_for (n := 1) (fun i : Nat => D.int (i : Int)) (List.range 3) (fun done env s => (∃ n : Int, ∃ x3 x4 x5 x6 x7 x8 x9 x11 x12, (mNxt new turn b ≤ n ∧ n ≤ mNxt new turn b + done.length) ∧ ((b : Rat) ≤ mNew new turn n ∧ mNew new turn n ≤ b + 1024 + 1024 * (done.length : Rat)) ∧ env = [some (.loc 0), some (.d (encQ new)), some (.d (encQ turn)), x3, x4, x5, x6, x7, x8, x9, some (.d (encQ (mNew new turn n))), x11, x12]) ∧ s = [.lst (ds.map D.int)]) (wi_rng1 ?_) ?_ ?_
    · simp (maxSteps := 4000000) only [fit0, fit1, fit2, fit3, fit4, fit5, fit6, fit7, fit8, fit9, fit10, fit11, fit12, fit13, fit14, fit15, fit16, fit17, fit18, fit19, fit20, fit21, fit22, fit23, fit24, fit25, fit26, fit27, fit28, fit29, fit30, tame_int, tame_bl, tame_non, tame_tup2, tames_nil, tames_cons, w_seq, KS_nx, KS_rt, KS_bk, KS_ct, w_next, w_set, w_setM, w_drop, w_ret, w_retN, w_brk, w_cnt, w_if, w_asg, w_parB, w_parC, w_N, w_N0, w_N1, w_NT, KF_nx, KF_rt, w_fun, fin_d, fin_fr, w_fin, WE_some, WT_some, WA_some, WI_some, WS_some, WV_d, WV_fr, WV_loc, WVT_d, WVT_fr, WB_bl, WF_fr, WG_some, WO_some, WO_ite, WO_map, w_var, w_C, w_op, w_un, w_test, w_chain, w_and, w_or, w_not, w_VT, w_ifE, w_A0, w_A1, w_call, w_blt, w_curs0, w_curs1, w_vals0, w_vals1, w_tup, w_lst, w_yes, WL_loc, w_app, w_pop, w_rev, w_put, w_getI, w_isi, w_p0, w_p1, w_sl, w_lstR, w_tupR, w_newK, w_newT, KL_nx, KL_ct, KL_bk, KL_rt, wipeE, clr_nil, clr_cons, c1_none, c1_d, c1_loc, WC_z, WC_s, lt_a1, lt_a2, lt_a3, st_take2, put_lst, put_dK, kit_bb, kit_ib, kit_ii, kit_sb, kit_si, kit_ss, kit_tb, kit_ti, kit_ts, kit_tt, ty_int, ty_bl, ty_str, ty_tup, add_int, add_str, add_tup, add_lst, sub_int, mul_int', mul_lst, fdiv_int, mod_int, pow_int, neg_int, lt_int', le_int', gt_int', ge_int', is_non, isn_non, is_bl, isn_bl, isNon_int, isNon_str, isNon_tup, isNon_bl, isNon_non, len_str, len_tup, len_lst, len_frl, len_dK, int_int, int_bl, abs_int, sum_lst, any_lst, all_lst, max2_int, min2_int, tuple_lst, tuple_tup, list_lst, list_tup, ix_tup, ix_lst, ix_frl, ix_frt, sl_tup, sl_lst, tg_d, tg_fr, tg_loc, cellV_lst, cellV_dK, cellV_dT, eq_int, ne_int, eq_bl, ne_bl, in_ints_tup, in_ints_lst, atI_0, atI_1, atI_2, atI_3, st_len, st_at, st_at1, st_set, st_set1, st_take, st_take1, st_all, st_lt, List.map_cons, List.map_nil, List.length_cons, List.length_nil, List.length_map, List.getElem?_cons_zero, List.getElem?_cons_succ, List.set_cons_zero, List.set_cons_succ, List.cons_append, List.nil_append, List.append_nil, List.replicate_succ, List.replicate_zero, List.append_assoc, Nat.reduceAdd, Nat.reduceSub, Nat.reduceLT, Nat.zero_add, Nat.add_zero, true_implies, false_implies, and_true, true_and, implies_true, List.length_set, take_set, List.getElem?_set_self, Bool.not_true, decide_true, decide_false, Bool.not_false, decide_eq_true_eq, decide_eq_false_iff_not, Bool.true_eq_false, Bool.false_eq_true, Option.some.injEq, exists_eq_left, exists_eq_left', R.d.injEq, D.int.injEq, D.bl.injEq, if_true, if_false, reduceIte, not_true_eq_false, not_false_eq_true, List.take_zero, List.take_succ_cons, and_self, Option.map_some, Bool.false_xor, Bool.and_self, Bool.true_and, Bool.and_true, Bool.true_xor]
      refine ⟨sm_int (by decide) (by decide), by rw [show Int.toNat 3 = 3 from rfl, rg0], ⟨mNxt new turn b, _, _, _, _, _, _, _, _, _, ⟨Int.le_refl _, by simp⟩, ⟨b1, ?_⟩, rfl⟩, fun _ _ _ _ => trivial⟩
      rw [show (((0 : Nat)) : Rat) = 0 from rfl]
      grind
    · rintro done i rest env s hd ⟨⟨n, x3, x4, x5, x6, x7, x8, x9, x11, x12, ⟨a1, a2⟩, ⟨a3, a4⟩, rfl⟩, rfl⟩
      obtain ⟨hi1, hi2⟩ := range_at hd
      have hdl : done.length < 3 := by omega
      have f1 : b ≤ (mNew new turn n).floor := Rat.le_floor_iff.mpr a3
      have f2 : (mNew new turn n).floor < b + 5000 := by
        rw [Rat.floor_lt_iff, Rat.intCast_add, show ((5000 : Int) : Rat) = 5000 from rfl]
        have h3 : ((done.length : Nat) : Rat) ≤ ((3 : Nat) : Rat) := Rat.natCast_le_natCast.mpr (by omega)
        rw [show ((3 : Nat) : Rat) = 3 from rfl] at h3
        grind
      have hn : n.natAbs < 2 ^ 1000 := by
        have := sz_nxt m.mo hb3
        omega
      have hfd : ((mNew new turn n).floor + 1).natAbs < 2 ^ 300 := by omega
      have hE : mNew new turn ((n + 1 : Int) : Rat) = mNew new turn n + turn := by rw [mNew_add, one_cast]; grind
      have t1 : Sz 1601 (mNew new turn n) := sz_new m.mo hn
      have t2 := t1.add m.mo.t
      have t3 : Sz 300 (((mNew new turn n).floor + 1 : Int) : Rat) := sz_int hfd (by decide)
      have hF := Rat.floor_le (mNew new turn n)
      have hone := m.one
      have hless : ¬ mNew new turn n + turn < (((mNew new turn n).floor + 1 : Int) : Rat) := by
        rw [Rat.intCast_add, one_cast]
        grind
      simp (maxSteps := 4000000) only [fit0, fit1, fit2, fit3, fit4, fit5, fit6, fit7, fit8, fit9, fit10, fit11, fit12, fit13, fit14, fit15, fit16, fit17, fit18, fit19, fit20, fit21, fit22, fit23, fit24, fit25, fit26, fit27, fit28, fit29, fit30, tame_int, tame_bl, tame_non, tame_tup2, tames_nil, tames_cons, w_seq, KS_nx, KS_rt, KS_bk, KS_ct, w_next, w_set, w_setM, w_drop, w_ret, w_retN, w_brk, w_cnt, w_if, w_asg, w_parB, w_parC, w_N, w_N0, w_N1, w_NT, KF_nx, KF_rt, w_fun, fin_d, fin_fr, w_fin, WE_some, WT_some, WA_some, WI_some, WS_some, WV_d, WV_fr, WV_loc, WVT_d, WVT_fr, WB_bl, WF_fr, WG_some, WO_some, WO_ite, WO_map, w_var, w_C, w_op, w_un, w_test, w_chain, w_and, w_or, w_not, w_VT, w_ifE, w_A0, w_A1, w_call, w_blt, w_curs0, w_curs1, w_vals0, w_vals1, w_tup, w_lst, w_yes, WL_loc, w_app, w_pop, w_rev, w_put, w_getI, w_isi, w_p0, w_p1, w_sl, w_lstR, w_tupR, w_newK, w_newT, KL_nx, KL_ct, KL_bk, KL_rt, wipeE, clr_nil, clr_cons, c1_none, c1_d, c1_loc, WC_z, WC_s, lt_a1, lt_a2, lt_a3, st_take2, put_lst, put_dK, kit_bb, kit_ib, kit_ii, kit_sb, kit_si, kit_ss, kit_tb, kit_ti, kit_ts, kit_tt, ty_int, ty_bl, ty_str, ty_tup, add_int, add_str, add_tup, add_lst, sub_int, mul_int', mul_lst, fdiv_int, mod_int, pow_int, neg_int, lt_int', le_int', gt_int', ge_int', is_non, isn_non, is_bl, isn_bl, isNon_int, isNon_str, isNon_tup, isNon_bl, isNon_non, len_str, len_tup, len_lst, len_frl, len_dK, int_int, int_bl, abs_int, sum_lst, any_lst, all_lst, max2_int, min2_int, tuple_lst, tuple_tup, list_lst, list_tup, ix_tup, ix_lst, ix_frl, ix_frt, sl_tup, sl_lst, tg_d, tg_fr, tg_loc, cellV_lst, cellV_dK, cellV_dT, eq_int, ne_int, eq_bl, ne_bl, in_ints_tup, in_ints_lst, atI_0, atI_1, atI_2, atI_3, st_len, st_at, st_at1, st_set, st_set1, st_take, st_take1, st_all, st_lt, List.map_cons, List.map_nil, List.length_cons, List.length_nil, List.length_map, List.getElem?_cons_zero, List.getElem?_cons_succ, List.set_cons_zero, List.set_cons_succ, List.cons_append, List.nil_append, List.append_nil, List.replicate_succ, List.replicate_zero, List.append_assoc, Nat.reduceAdd, Nat.reduceSub, Nat.reduceLT, Nat.zero_add, Nat.add_zero, true_implies, false_implies, and_true, true_and, implies_true, List.length_set, take_set, List.getElem?_set_self, Bool.not_true, decide_true, decide_false, Bool.not_false, decide_eq_true_eq, decide_eq_false_iff_not, Bool.true_eq_false, Bool.false_eq_true, Option.some.injEq, exists_eq_left, exists_eq_left', R.d.injEq, D.int.injEq, D.bl.injEq, if_true, if_false, reduceIte, not_true_eq_false, not_false_eq_true, List.take_zero, List.take_succ_cons, and_self, Option.map_some, Bool.false_xor, Bool.and_self, Bool.true_and, Bool.and_true, Bool.true_xor, one_Q, two_Q, lfloor_eq t1 (by decide), next_new_eq m.mo hfd, nxt_next m.one, hE, lless_eq (sz_big sz_1) (sz_big m.mo.t), lplus_eq (sz_big t1) (sz_big m.mo.t), ne_Q, lwhole_eq, lless_eq (sz_big t2) (sz_big t3), hless]
      have g1 : (b : Rat) ≤ mNew new turn n + turn := by grind
      have g2 : mNew new turn n + turn ≤ b + 1024 + 1024 * ((done.length + 1 : Nat) : Rat) := by
        rw [Rat.natCast_add, show ((1 : Nat) : Rat) = 1 from rfl]; grind
      rw [← hE] at g1 g2
      have g3 : mNxt new turn b ≤ n + 1 ∧ n + 1 ≤ mNxt new turn b + ((done.length + 1 : Nat) : Int) := by omega
      rw [List.length_append, List.length_singleton]
      simp only [← hE]
      exact ⟨fun _ => ⟨n + 1, _, _, _, _, _, _, _, _, _, g3, ⟨g1, g2⟩, rfl⟩, fun _ => ⟨n + 1, _, _, _, _, _, _, _, _, _, g3, ⟨g1, g2⟩, rfl⟩⟩
    · rintro env s ⟨⟨n, x3, x4, x5, x6, x7, x8, x9, x11, x12, ⟨a1, a2⟩, ⟨a3, a4⟩, rfl⟩, rfl⟩
      simp (maxSteps := 4000000) only [fit0, fit1, fit2, fit3, fit4, fit5, fit6, fit7, fit8, fit9, fit10, fit11, fit12, fit13, fit14, fit15, fit16, fit17, fit18, fit19, fit20, fit21, fit22, fit23, fit24, fit25, fit26, fit27, fit28, fit29, fit30, tame_int, tame_bl, tame_non, tame_tup2, tames_nil, tames_cons, w_seq, KS_nx, KS_rt, KS_bk, KS_ct, w_next, w_set, w_setM, w_drop, w_ret, w_retN, w_brk, w_cnt, w_if, w_asg, w_parB, w_parC, w_N, w_N0, w_N1, w_NT, KF_nx, KF_rt, w_fun, fin_d, fin_fr, w_fin, WE_some, WT_some, WA_some, WI_some, WS_some, WV_d, WV_fr, WV_loc, WVT_d, WVT_fr, WB_bl, WF_fr, WG_some, WO_some, WO_ite, WO_map, w_var, w_C, w_op, w_un, w_test, w_chain, w_and, w_or, w_not, w_VT, w_ifE, w_A0, w_A1, w_call, w_blt, w_curs0, w_curs1, w_vals0, w_vals1, w_tup, w_lst, w_yes, WL_loc, w_app, w_pop, w_rev, w_put, w_getI, w_isi, w_p0, w_p1, w_sl, w_lstR, w_tupR, w_newK, w_newT, KL_nx, KL_ct, KL_bk, KL_rt, wipeE, clr_nil, clr_cons, c1_none, c1_d, c1_loc, WC_z, WC_s, lt_a1, lt_a2, lt_a3, st_take2, put_lst, put_dK, kit_bb, kit_ib, kit_ii, kit_sb, kit_si, kit_ss, kit_tb, kit_ti, kit_ts, kit_tt, ty_int, ty_bl, ty_str, ty_tup, add_int, add_str, add_tup, add_lst, sub_int, mul_int', mul_lst, fdiv_int, mod_int, pow_int, neg_int, lt_int', le_int', gt_int', ge_int', is_non, isn_non, is_bl, isn_bl, isNon_int, isNon_str, isNon_tup, isNon_bl, isNon_non, len_str, len_tup, len_lst, len_frl, len_dK, int_int, int_bl, abs_int, sum_lst, any_lst, all_lst, max2_int, min2_int, tuple_lst, tuple_tup, list_lst, list_tup, ix_tup, ix_lst, ix_frl, ix_frt, sl_tup, sl_lst, tg_d, tg_fr, tg_loc, cellV_lst, cellV_dK, cellV_dT, eq_int, ne_int, eq_bl, ne_bl, in_ints_tup, in_ints_lst, atI_0, atI_1, atI_2, atI_3, st_len, st_at, st_at1, st_set, st_set1, st_take, st_take1, st_all, st_lt, List.map_cons, List.map_nil, List.length_cons, List.length_nil, List.length_map, List.getElem?_cons_zero, List.getElem?_cons_succ, List.set_cons_zero, List.set_cons_succ, List.cons_append, List.nil_append, List.append_nil, List.replicate_succ, List.replicate_zero, List.append_assoc, Nat.reduceAdd, Nat.reduceSub, Nat.reduceLT, Nat.zero_add, Nat.add_zero, true_implies, false_implies, and_true, true_and, implies_true, List.length_set, take_set, List.getElem?_set_self, Bool.not_true, decide_true, decide_false, Bool.not_false, decide_eq_true_eq, decide_eq_false_iff_not, Bool.true_eq_false, Bool.false_eq_true, Option.some.injEq, exists_eq_left, exists_eq_left', R.d.injEq, D.int.injEq, D.bl.injEq, if_true, if_false, reduceIte, not_true_eq_false, not_false_eq_true, List.take_zero, List.take_succ_cons, and_self, Option.map_some, Bool.false_xor, Bool.and_self, Bool.true_and, Bool.and_true, Bool.true_xor]
      exact h ds
end K92

set_option Elab.async false
set_option linter.all false
set_option maxRecDepth 100000
set_option maxHeartbeats 4000000
namespace K92
open PySem DL
open L2 (atI)
theorem move_days {b c e : Int} : daysIn (b + c) (e + c) = (daysIn b e).map fun d => d + c := by
  unfold daysIn
  rw [show e + c - (b + c) = e - b by omega, List.map_map]
  refine List.map_congr_left fun i _ => ?_
  show b + c + (i : Int) = b + (i : Int) + c
  omega
theorem changes_right {new turn : Rat} {b e : Int} {ns ds : List Int} (hl : ns.length ≤ 63) (m : Md new turn) (hb : -1000 < b ∧ b < 1000) (hbe : b ≤ e) (he : e - b < 300) {Q : R → Sto → Prop} (h : ∀ ds' : List Int, Q (.d (.bl true)) [.lst (ds'.map D.int)]) :
    WE (F__law_are_changes_right [.loc 0, .d (.frl (ns.map D.int)), .d (encQ new), .d (encQ turn), .d (.int b), .d (.int e)] [.lst (ds.map D.int)]) Q := by
  have pp := p150
  have p94' := p94
  have p100 := p2_mono (show 100 ≤ 150 by decide)
  have hpos := m.mo.pos
  unfold F__law_are_changes_right
  simp (maxSteps := 4000000) only [fit0, fit1, fit2, fit3, fit4, fit5, fit6, fit7, fit8, fit9, fit10, fit11, fit12, fit13, fit14, fit15, fit16, fit17, fit18, fit19, fit20, fit21, fit22, fit23, fit24, fit25, fit26, fit27, fit28, fit29, fit30, tame_int, tame_bl, tame_non, tame_tup2, tames_nil, tames_cons, w_seq, KS_nx, KS_rt, KS_bk, KS_ct, w_next, w_set, w_setM, w_drop, w_ret, w_retN, w_brk, w_cnt, w_if, w_asg, w_parB, w_parC, w_N, w_N0, w_N1, w_NT, KF_nx, KF_rt, w_fun, fin_d, fin_fr, w_fin, WE_some, WT_some, WA_some, WI_some, WS_some, WV_d, WV_fr, WV_loc, WVT_d, WVT_fr, WB_bl, WF_fr, WG_some, WO_some, WO_ite, WO_map, w_var, w_C, w_op, w_un, w_test, w_chain, w_and, w_or, w_not, w_VT, w_ifE, w_A0, w_A1, w_call, w_blt, w_curs0, w_curs1, w_vals0, w_vals1, w_tup, w_lst, w_yes, WL_loc, w_app, w_pop, w_rev, w_put, w_getI, w_isi, w_p0, w_p1, w_sl, w_lstR, w_tupR, w_newK, w_newT, KL_nx, KL_ct, KL_bk, KL_rt, wipeE, clr_nil, clr_cons, c1_none, c1_d, c1_loc, WC_z, WC_s, lt_a1, lt_a2, lt_a3, st_take2, put_lst, put_dK, kit_bb, kit_ib, kit_ii, kit_sb, kit_si, kit_ss, kit_tb, kit_ti, kit_ts, kit_tt, ty_int, ty_bl, ty_str, ty_tup, add_int, add_str, add_tup, add_lst, sub_int, mul_int', mul_lst, fdiv_int, mod_int, pow_int, neg_int, lt_int', le_int', gt_int', ge_int', is_non, isn_non, is_bl, isn_bl, isNon_int, isNon_str, isNon_tup, isNon_bl, isNon_non, len_str, len_tup, len_lst, len_frl, len_dK, int_int, int_bl, abs_int, sum_lst, any_lst, all_lst, max2_int, min2_int, tuple_lst, tuple_tup, list_lst, list_tup, ix_tup, ix_lst, ix_frl, ix_frt, sl_tup, sl_lst, tg_d, tg_fr, tg_loc, cellV_lst, cellV_dK, cellV_dT, eq_int, ne_int, eq_bl, ne_bl, in_ints_tup, in_ints_lst, atI_0, atI_1, atI_2, atI_3, st_len, st_at, st_at1, st_set, st_set1, st_take, st_take1, st_all, st_lt, List.map_cons, List.map_nil, List.length_cons, List.length_nil, List.length_map, List.getElem?_cons_zero, List.getElem?_cons_succ, List.set_cons_zero, List.set_cons_succ, List.cons_append, List.nil_append, List.append_nil, List.replicate_succ, List.replicate_zero, List.append_assoc, Nat.reduceAdd, Nat.reduceSub, Nat.reduceLT, Nat.zero_add, Nat.add_zero, true_implies, false_implies, and_true, true_and, implies_true, List.length_set, take_set, List.getElem?_set_self, Bool.not_true, decide_true, decide_false, Bool.not_false, decide_eq_true_eq, decide_eq_false_iff_not, Bool.true_eq_false, Bool.false_eq_true, Option.some.injEq, exists_eq_left, exists_eq_left', R.d.injEq, D.int.injEq, D.bl.injEq, if_true, if_false, reduceIte, not_true_eq_false, not_false_eq_true, List.take_zero, List.take_succ_cons, and_self, Option.map_some, Bool.false_xor, Bool.and_self, Bool.true_and, Bool.and_true, Bool.true_xor]
  refine take_ok rfl (by omega) fun v ds v0 v1 => ?_
  obtain ⟨k, hk⟩ : ∃ k, v - 4 = k := ⟨_, rfl⟩
  have hk2 : k.natAbs < 2 ^ 10 := by omega
  obtain ⟨c, hc, ec⟩ := cell_ok (ns := ns) (k := 2) (st := [.lst (ds.map D.int)]) hl
  have hc2 : c.natAbs < 2 ^ 100 := by omega
  have sk : Sz 1000 ((k : Int) : Rat) := sz_int (lt2 hk2) (by decide)
  have sk2 : Sz 10 ((k : Int) : Rat) := sz_int hk2 (by decide)
  have sc : Sz 100 ((c : Int) : Rat) := sz_int hc2 (by decide)
  have mo1 : Mo (mNew new turn k) turn := ⟨(m.n.add (m.t.mul sk2)).mono (by decide), m.mo.t, m.one⟩
  have mo2 : Mo (new + (c : Rat)) turn := ⟨(m.n.add sc).mono (by decide), m.mo.t, m.one⟩
  have hb3 : b.natAbs < 2 ^ 300 := by omega
  have he3 : e.natAbs < 2 ^ 300 := by omega
  have hbc : (b + c).natAbs < 2 ^ 300 := by omega
  have hec : (e + c).natAbs < 2 ^ 300 := by omega
  simp (maxSteps := 4000000) only [fit0, fit1, fit2, fit3, fit4, fit5, fit6, fit7, fit8, fit9, fit10, fit11, fit12, fit13, fit14, fit15, fit16, fit17, fit18, fit19, fit20, fit21, fit22, fit23, fit24, fit25, fit26, fit27, fit28, fit29, fit30, tame_int, tame_bl, tame_non, tame_tup2, tames_nil, tames_cons, w_seq, KS_nx, KS_rt, KS_bk, KS_ct, w_next, w_set, w_setM, w_drop, w_ret, w_retN, w_brk, w_cnt, w_if, w_asg, w_parB, w_parC, w_N, w_N0, w_N1, w_NT, KF_nx, KF_rt, w_fun, fin_d, fin_fr, w_fin, WE_some, WT_some, WA_some, WI_some, WS_some, WV_d, WV_fr, WV_loc, WVT_d, WVT_fr, WB_bl, WF_fr, WG_some, WO_some, WO_ite, WO_map, w_var, w_C, w_op, w_un, w_test, w_chain, w_and, w_or, w_not, w_VT, w_ifE, w_A0, w_A1, w_call, w_blt, w_curs0, w_curs1, w_vals0, w_vals1, w_tup, w_lst, w_yes, WL_loc, w_app, w_pop, w_rev, w_put, w_getI, w_isi, w_p0, w_p1, w_sl, w_lstR, w_tupR, w_newK, w_newT, KL_nx, KL_ct, KL_bk, KL_rt, wipeE, clr_nil, clr_cons, c1_none, c1_d, c1_loc, WC_z, WC_s, lt_a1, lt_a2, lt_a3, st_take2, put_lst, put_dK, kit_bb, kit_ib, kit_ii, kit_sb, kit_si, kit_ss, kit_tb, kit_ti, kit_ts, kit_tt, ty_int, ty_bl, ty_str, ty_tup, add_int, add_str, add_tup, add_lst, sub_int, mul_int', mul_lst, fdiv_int, mod_int, pow_int, neg_int, lt_int', le_int', gt_int', ge_int', is_non, isn_non, is_bl, isn_bl, isNon_int, isNon_str, isNon_tup, isNon_bl, isNon_non, len_str, len_tup, len_lst, len_frl, len_dK, int_int, int_bl, abs_int, sum_lst, any_lst, all_lst, max2_int, min2_int, tuple_lst, tuple_tup, list_lst, list_tup, ix_tup, ix_lst, ix_frl, ix_frt, sl_tup, sl_lst, tg_d, tg_fr, tg_loc, cellV_lst, cellV_dK, cellV_dT, eq_int, ne_int, eq_bl, ne_bl, in_ints_tup, in_ints_lst, atI_0, atI_1, atI_2, atI_3, st_len, st_at, st_at1, st_set, st_set1, st_take, st_take1, st_all, st_lt, List.map_cons, List.map_nil, List.length_cons, List.length_nil, List.length_map, List.getElem?_cons_zero, List.getElem?_cons_succ, List.set_cons_zero, List.set_cons_succ, List.cons_append, List.nil_append, List.append_nil, List.replicate_succ, List.replicate_zero, List.append_assoc, Nat.reduceAdd, Nat.reduceSub, Nat.reduceLT, Nat.zero_add, Nat.add_zero, true_implies, false_implies, and_true, true_and, implies_true, List.length_set, take_set, List.getElem?_set_self, Bool.not_true, decide_true, decide_false, Bool.not_false, decide_eq_true_eq, decide_eq_false_iff_not, Bool.true_eq_false, Bool.false_eq_true, Option.some.injEq, exists_eq_left, exists_eq_left', R.d.injEq, D.int.injEq, D.bl.injEq, if_true, if_false, reduceIte, not_true_eq_false, not_false_eq_true, List.take_zero, List.take_succ_cons, and_self, Option.map_some, Bool.false_xor, Bool.and_self, Bool.true_and, Bool.and_true, Bool.true_xor, hk, lwhole_eq, lnew_eq m.mo sk, ec, lplus_eq (sz_big m.n) (sz_big sc)]
  refine w_for (n := 1) D.int (daysIn b (b + 12)) (fun done env s => (∃ x6 x10 x11 x12, env = [some (.loc 0), some (.d (.frl (ns.map D.int))), some (.d (encQ new)), some (.d (encQ turn)), some (.d (.int b)), some (.d (.int e)), x6, some (.d (encQ (mNew new turn k))), some (.d (.int c)), some (.d (encQ (new + (c : Rat)))), x10, x11, x12]) ∧ s = [.lst (ds.map D.int)]) (wi_rngA ?_) ?_ ?_
  · simp (maxSteps := 4000000) only [fit0, fit1, fit2, fit3, fit4, fit5, fit6, fit7, fit8, fit9, fit10, fit11, fit12, fit13, fit14, fit15, fit16, fit17, fit18, fit19, fit20, fit21, fit22, fit23, fit24, fit25, fit26, fit27, fit28, fit29, fit30, tame_int, tame_bl, tame_non, tame_tup2, tames_nil, tames_cons, w_seq, KS_nx, KS_rt, KS_bk, KS_ct, w_next, w_set, w_setM, w_drop, w_ret, w_retN, w_brk, w_cnt, w_if, w_asg, w_parB, w_parC, w_N, w_N0, w_N1, w_NT, KF_nx, KF_rt, w_fun, fin_d, fin_fr, w_fin, WE_some, WT_some, WA_some, WI_some, WS_some, WV_d, WV_fr, WV_loc, WVT_d, WVT_fr, WB_bl, WF_fr, WG_some, WO_some, WO_ite, WO_map, w_var, w_C, w_op, w_un, w_test, w_chain, w_and, w_or, w_not, w_VT, w_ifE, w_A0, w_A1, w_call, w_blt, w_curs0, w_curs1, w_vals0, w_vals1, w_tup, w_lst, w_yes, WL_loc, w_app, w_pop, w_rev, w_put, w_getI, w_isi, w_p0, w_p1, w_sl, w_lstR, w_tupR, w_newK, w_newT, KL_nx, KL_ct, KL_bk, KL_rt, wipeE, clr_nil, clr_cons, c1_none, c1_d, c1_loc, WC_z, WC_s, lt_a1, lt_a2, lt_a3, st_take2, put_lst, put_dK, kit_bb, kit_ib, kit_ii, kit_sb, kit_si, kit_ss, kit_tb, kit_ti, kit_ts, kit_tt, ty_int, ty_bl, ty_str, ty_tup, add_int, add_str, add_tup, add_lst, sub_int, mul_int', mul_lst, fdiv_int, mod_int, pow_int, neg_int, lt_int', le_int', gt_int', ge_int', is_non, isn_non, is_bl, isn_bl, isNon_int, isNon_str, isNon_tup, isNon_bl, isNon_non, len_str, len_tup, len_lst, len_frl, len_dK, int_int, int_bl, abs_int, sum_lst, any_lst, all_lst, max2_int, min2_int, tuple_lst, tuple_tup, list_lst, list_tup, ix_tup, ix_lst, ix_frl, ix_frt, sl_tup, sl_lst, tg_d, tg_fr, tg_loc, cellV_lst, cellV_dK, cellV_dT, eq_int, ne_int, eq_bl, ne_bl, in_ints_tup, in_ints_lst, atI_0, atI_1, atI_2, atI_3, st_len, st_at, st_at1, st_set, st_set1, st_take, st_take1, st_all, st_lt, List.map_cons, List.map_nil, List.length_cons, List.length_nil, List.length_map, List.getElem?_cons_zero, List.getElem?_cons_succ, List.set_cons_zero, List.set_cons_succ, List.cons_append, List.nil_append, List.append_nil, List.replicate_succ, List.replicate_zero, List.append_assoc, Nat.reduceAdd, Nat.reduceSub, Nat.reduceLT, Nat.zero_add, Nat.add_zero, true_implies, false_implies, and_true, true_and, implies_true, List.length_set, take_set, List.getElem?_set_self, Bool.not_true, decide_true, decide_false, Bool.not_false, decide_eq_true_eq, decide_eq_false_iff_not, Bool.true_eq_false, Bool.false_eq_true, Option.some.injEq, exists_eq_left, exists_eq_left', R.d.injEq, D.int.injEq, D.bl.injEq, if_true, if_false, reduceIte, not_true_eq_false, not_false_eq_true, List.take_zero, List.take_succ_cons, and_self, Option.map_some, Bool.false_xor, Bool.and_self, Bool.true_and, Bool.and_true, Bool.true_xor]
    exact ⟨rg_days _ _, ⟨_, _, _, _, rfl⟩, fun _ _ _ _ => trivial⟩
  · rintro done d rest env s hd ⟨⟨x6, x10, x11, x12, rfl⟩, rfl⟩
    have hdm : d ∈ daysIn b (b + 12) := by rw [hd]; simp
    rw [mem_daysIn] at hdm
    have hd3 : d.natAbs < 2 ^ 300 := by omega
    have hdc : (d + c).natAbs < 2 ^ 300 := by omega
    simp (maxSteps := 4000000) only [fit0, fit1, fit2, fit3, fit4, fit5, fit6, fit7, fit8, fit9, fit10, fit11, fit12, fit13, fit14, fit15, fit16, fit17, fit18, fit19, fit20, fit21, fit22, fit23, fit24, fit25, fit26, fit27, fit28, fit29, fit30, tame_int, tame_bl, tame_non, tame_tup2, tames_nil, tames_cons, w_seq, KS_nx, KS_rt, KS_bk, KS_ct, w_next, w_set, w_setM, w_drop, w_ret, w_retN, w_brk, w_cnt, w_if, w_asg, w_parB, w_parC, w_N, w_N0, w_N1, w_NT, KF_nx, KF_rt, w_fun, fin_d, fin_fr, w_fin, WE_some, WT_some, WA_some, WI_some, WS_some, WV_d, WV_fr, WV_loc, WVT_d, WVT_fr, WB_bl, WF_fr, WG_some, WO_some, WO_ite, WO_map, w_var, w_C, w_op, w_un, w_test, w_chain, w_and, w_or, w_not, w_VT, w_ifE, w_A0, w_A1, w_call, w_blt, w_curs0, w_curs1, w_vals0, w_vals1, w_tup, w_lst, w_yes, WL_loc, w_app, w_pop, w_rev, w_put, w_getI, w_isi, w_p0, w_p1, w_sl, w_lstR, w_tupR, w_newK, w_newT, KL_nx, KL_ct, KL_bk, KL_rt, wipeE, clr_nil, clr_cons, c1_none, c1_d, c1_loc, WC_z, WC_s, lt_a1, lt_a2, lt_a3, st_take2, put_lst, put_dK, kit_bb, kit_ib, kit_ii, kit_sb, kit_si, kit_ss, kit_tb, kit_ti, kit_ts, kit_tt, ty_int, ty_bl, ty_str, ty_tup, add_int, add_str, add_tup, add_lst, sub_int, mul_int', mul_lst, fdiv_int, mod_int, pow_int, neg_int, lt_int', le_int', gt_int', ge_int', is_non, isn_non, is_bl, isn_bl, isNon_int, isNon_str, isNon_tup, isNon_bl, isNon_non, len_str, len_tup, len_lst, len_frl, len_dK, int_int, int_bl, abs_int, sum_lst, any_lst, all_lst, max2_int, min2_int, tuple_lst, tuple_tup, list_lst, list_tup, ix_tup, ix_lst, ix_frl, ix_frt, sl_tup, sl_lst, tg_d, tg_fr, tg_loc, cellV_lst, cellV_dK, cellV_dT, eq_int, ne_int, eq_bl, ne_bl, in_ints_tup, in_ints_lst, atI_0, atI_1, atI_2, atI_3, st_len, st_at, st_at1, st_set, st_set1, st_take, st_take1, st_all, st_lt, List.map_cons, List.map_nil, List.length_cons, List.length_nil, List.length_map, List.getElem?_cons_zero, List.getElem?_cons_succ, List.set_cons_zero, List.set_cons_succ, List.cons_append, List.nil_append, List.append_nil, List.replicate_succ, List.replicate_zero, List.append_assoc, Nat.reduceAdd, Nat.reduceSub, Nat.reduceLT, Nat.zero_add, Nat.add_zero, true_implies, false_implies, and_true, true_and, implies_true, List.length_set, take_set, List.getElem?_set_self, Bool.not_true, decide_true, decide_false, Bool.not_false, decide_eq_true_eq, decide_eq_false_iff_not, Bool.true_eq_false, Bool.false_eq_true, Option.some.injEq, exists_eq_left, exists_eq_left', R.d.injEq, D.int.injEq, D.bl.injEq, if_true, if_false, reduceIte, not_true_eq_false, not_false_eq_true, List.take_zero, List.take_succ_cons, and_self, Option.map_some, Bool.false_xor, Bool.and_self, Bool.true_and, Bool.and_true, Bool.true_xor, age_eq mo1 hd3, age_eq mo2 hdc, age_eq m.mo hd3, shift_age hpos, move_age, next_new_eq mo1 hd3, next_new_eq m.mo hd3, shift_nxt hpos, quarter_eq mo2 hdc, quarter_eq m.mo hd3, ne_Q]
    exact ⟨_, _, _, _, rfl⟩
  · rintro env s ⟨⟨x6, x10, x11, x12, rfl⟩, rfl⟩
    have f1 : mSpr (mNew new turn k) turn = mSpr new turn := funext fun d => shift_spr hpos k d
    have f2 : (daysIn (b + c) (e + c)).filter (mSpr (new + (c : Rat)) turn) = ((daysIn b e).filter (mSpr new turn)).map fun d => d + c := by
      rw [move_days, List.filter_map]
      congr 2
      funext d
      exact move_spr hpos c d
    have hfl : (((daysIn b e).filter (mSpr new turn)).map fun d => d + c).length < 1000000 := by
      rw [List.length_map]
      refine Nat.lt_of_le_of_lt (List.length_filter_le _ _) ?_
      rw [len_daysIn]; omega
    simp (maxSteps := 4000000) only [fit0, fit1, fit2, fit3, fit4, fit5, fit6, fit7, fit8, fit9, fit10, fit11, fit12, fit13, fit14, fit15, fit16, fit17, fit18, fit19, fit20, fit21, fit22, fit23, fit24, fit25, fit26, fit27, fit28, fit29, fit30, tame_int, tame_bl, tame_non, tame_tup2, tames_nil, tames_cons, w_seq, KS_nx, KS_rt, KS_bk, KS_ct, w_next, w_set, w_setM, w_drop, w_ret, w_retN, w_brk, w_cnt, w_if, w_asg, w_parB, w_parC, w_N, w_N0, w_N1, w_NT, KF_nx, KF_rt, w_fun, fin_d, fin_fr, w_fin, WE_some, WT_some, WA_some, WI_some, WS_some, WV_d, WV_fr, WV_loc, WVT_d, WVT_fr, WB_bl, WF_fr, WG_some, WO_some, WO_ite, WO_map, w_var, w_C, w_op, w_un, w_test, w_chain, w_and, w_or, w_not, w_VT, w_ifE, w_A0, w_A1, w_call, w_blt, w_curs0, w_curs1, w_vals0, w_vals1, w_tup, w_lst, w_yes, WL_loc, w_app, w_pop, w_rev, w_put, w_getI, w_isi, w_p0, w_p1, w_sl, w_lstR, w_tupR, w_newK, w_newT, KL_nx, KL_ct, KL_bk, KL_rt, wipeE, clr_nil, clr_cons, c1_none, c1_d, c1_loc, WC_z, WC_s, lt_a1, lt_a2, lt_a3, st_take2, put_lst, put_dK, kit_bb, kit_ib, kit_ii, kit_sb, kit_si, kit_ss, kit_tb, kit_ti, kit_ts, kit_tt, ty_int, ty_bl, ty_str, ty_tup, add_int, add_str, add_tup, add_lst, sub_int, mul_int', mul_lst, fdiv_int, mod_int, pow_int, neg_int, lt_int', le_int', gt_int', ge_int', is_non, isn_non, is_bl, isn_bl, isNon_int, isNon_str, isNon_tup, isNon_bl, isNon_non, len_str, len_tup, len_lst, len_frl, len_dK, int_int, int_bl, abs_int, sum_lst, any_lst, all_lst, max2_int, min2_int, tuple_lst, tuple_tup, list_lst, list_tup, ix_tup, ix_lst, ix_frl, ix_frt, sl_tup, sl_lst, tg_d, tg_fr, tg_loc, cellV_lst, cellV_dK, cellV_dT, eq_int, ne_int, eq_bl, ne_bl, in_ints_tup, in_ints_lst, atI_0, atI_1, atI_2, atI_3, st_len, st_at, st_at1, st_set, st_set1, st_take, st_take1, st_all, st_lt, List.map_cons, List.map_nil, List.length_cons, List.length_nil, List.length_map, List.getElem?_cons_zero, List.getElem?_cons_succ, List.set_cons_zero, List.set_cons_succ, List.cons_append, List.nil_append, List.append_nil, List.replicate_succ, List.replicate_zero, List.append_assoc, Nat.reduceAdd, Nat.reduceSub, Nat.reduceLT, Nat.zero_add, Nat.add_zero, true_implies, false_implies, and_true, true_and, implies_true, List.length_set, take_set, List.getElem?_set_self, Bool.not_true, decide_true, decide_false, Bool.not_false, decide_eq_true_eq, decide_eq_false_iff_not, Bool.true_eq_false, Bool.false_eq_true, Option.some.injEq, exists_eq_left, exists_eq_left', R.d.injEq, D.int.injEq, D.bl.injEq, if_true, if_false, reduceIte, not_true_eq_false, not_false_eq_true, List.take_zero, List.take_succ_cons, and_self, Option.map_some, Bool.false_xor, Bool.and_self, Bool.true_and, Bool.and_true, Bool.true_xor, spring_eq mo1 hb3 hbe (show e - b < 1000 by omega), spring_eq m.mo hb3 hbe (show e - b < 1000 by omega), f1, ne_self]
    rw [w_compP D.int ((daysIn b e).filter (mSpr new turn)) (fun _ => true) (fun d => D.int (d + c))]
    · have f3 : (((daysIn b e).filter (mSpr new turn)).filter fun _ => true).map (fun d => D.int (d + c)) = (((daysIn b e).filter (mSpr new turn)).map fun d => d + c).map D.int := by rw [filter_tt, List.map_map]; rfl
      simp (maxSteps := 4000000) only [fit0, fit1, fit2, fit3, fit4, fit5, fit6, fit7, fit8, fit9, fit10, fit11, fit12, fit13, fit14, fit15, fit16, fit17, fit18, fit19, fit20, fit21, fit22, fit23, fit24, fit25, fit26, fit27, fit28, fit29, fit30, tame_int, tame_bl, tame_non, tame_tup2, tames_nil, tames_cons, w_seq, KS_nx, KS_rt, KS_bk, KS_ct, w_next, w_set, w_setM, w_drop, w_ret, w_retN, w_brk, w_cnt, w_if, w_asg, w_parB, w_parC, w_N, w_N0, w_N1, w_NT, KF_nx, KF_rt, w_fun, fin_d, fin_fr, w_fin, WE_some, WT_some, WA_some, WI_some, WS_some, WV_d, WV_fr, WV_loc, WVT_d, WVT_fr, WB_bl, WF_fr, WG_some, WO_some, WO_ite, WO_map, w_var, w_C, w_op, w_un, w_test, w_chain, w_and, w_or, w_not, w_VT, w_ifE, w_A0, w_A1, w_call, w_blt, w_curs0, w_curs1, w_vals0, w_vals1, w_tup, w_lst, w_yes, WL_loc, w_app, w_pop, w_rev, w_put, w_getI, w_isi, w_p0, w_p1, w_sl, w_lstR, w_tupR, w_newK, w_newT, KL_nx, KL_ct, KL_bk, KL_rt, wipeE, clr_nil, clr_cons, c1_none, c1_d, c1_loc, WC_z, WC_s, lt_a1, lt_a2, lt_a3, st_take2, put_lst, put_dK, kit_bb, kit_ib, kit_ii, kit_sb, kit_si, kit_ss, kit_tb, kit_ti, kit_ts, kit_tt, ty_int, ty_bl, ty_str, ty_tup, add_int, add_str, add_tup, add_lst, sub_int, mul_int', mul_lst, fdiv_int, mod_int, pow_int, neg_int, lt_int', le_int', gt_int', ge_int', is_non, isn_non, is_bl, isn_bl, isNon_int, isNon_str, isNon_tup, isNon_bl, isNon_non, len_str, len_tup, len_lst, len_frl, len_dK, int_int, int_bl, abs_int, sum_lst, any_lst, all_lst, max2_int, min2_int, tuple_lst, tuple_tup, list_lst, list_tup, ix_tup, ix_lst, ix_frl, ix_frt, sl_tup, sl_lst, tg_d, tg_fr, tg_loc, cellV_lst, cellV_dK, cellV_dT, eq_int, ne_int, eq_bl, ne_bl, in_ints_tup, in_ints_lst, atI_0, atI_1, atI_2, atI_3, st_len, st_at, st_at1, st_set, st_set1, st_take, st_take1, st_all, st_lt, List.map_cons, List.map_nil, List.length_cons, List.length_nil, List.length_map, List.getElem?_cons_zero, List.getElem?_cons_succ, List.set_cons_zero, List.set_cons_succ, List.cons_append, List.nil_append, List.append_nil, List.replicate_succ, List.replicate_zero, List.append_assoc, Nat.reduceAdd, Nat.reduceSub, Nat.reduceLT, Nat.zero_add, Nat.add_zero, true_implies, false_implies, and_true, true_and, implies_true, List.length_set, take_set, List.getElem?_set_self, Bool.not_true, decide_true, decide_false, Bool.not_false, decide_eq_true_eq, decide_eq_false_iff_not, Bool.true_eq_false, Bool.false_eq_true, Option.some.injEq, exists_eq_left, exists_eq_left', R.d.injEq, D.int.injEq, D.bl.injEq, if_true, if_false, reduceIte, not_true_eq_false, not_false_eq_true, List.take_zero, List.take_succ_cons, and_self, Option.map_some, Bool.false_xor, Bool.and_self, Bool.true_and, Bool.and_true, Bool.true_xor, f3, spring_eq mo2 hbc (show b + c ≤ e + c by omega) (show e + c - (b + c) < 1000 by omega), f2, st_ints hfl, between_eq mo2 hbc hec, between_eq m.mo hb3 he3, move_nxt]
      exact h ds
    · refine wi_iter ?_
      simp (maxSteps := 4000000) only [fit0, fit1, fit2, fit3, fit4, fit5, fit6, fit7, fit8, fit9, fit10, fit11, fit12, fit13, fit14, fit15, fit16, fit17, fit18, fit19, fit20, fit21, fit22, fit23, fit24, fit25, fit26, fit27, fit28, fit29, fit30, tame_int, tame_bl, tame_non, tame_tup2, tames_nil, tames_cons, w_seq, KS_nx, KS_rt, KS_bk, KS_ct, w_next, w_set, w_setM, w_drop, w_ret, w_retN, w_brk, w_cnt, w_if, w_asg, w_parB, w_parC, w_N, w_N0, w_N1, w_NT, KF_nx, KF_rt, w_fun, fin_d, fin_fr, w_fin, WE_some, WT_some, WA_some, WI_some, WS_some, WV_d, WV_fr, WV_loc, WVT_d, WVT_fr, WB_bl, WF_fr, WG_some, WO_some, WO_ite, WO_map, w_var, w_C, w_op, w_un, w_test, w_chain, w_and, w_or, w_not, w_VT, w_ifE, w_A0, w_A1, w_call, w_blt, w_curs0, w_curs1, w_vals0, w_vals1, w_tup, w_lst, w_yes, WL_loc, w_app, w_pop, w_rev, w_put, w_getI, w_isi, w_p0, w_p1, w_sl, w_lstR, w_tupR, w_newK, w_newT, KL_nx, KL_ct, KL_bk, KL_rt, wipeE, clr_nil, clr_cons, c1_none, c1_d, c1_loc, WC_z, WC_s, lt_a1, lt_a2, lt_a3, st_take2, put_lst, put_dK, kit_bb, kit_ib, kit_ii, kit_sb, kit_si, kit_ss, kit_tb, kit_ti, kit_ts, kit_tt, ty_int, ty_bl, ty_str, ty_tup, add_int, add_str, add_tup, add_lst, sub_int, mul_int', mul_lst, fdiv_int, mod_int, pow_int, neg_int, lt_int', le_int', gt_int', ge_int', is_non, isn_non, is_bl, isn_bl, isNon_int, isNon_str, isNon_tup, isNon_bl, isNon_non, len_str, len_tup, len_lst, len_frl, len_dK, int_int, int_bl, abs_int, sum_lst, any_lst, all_lst, max2_int, min2_int, tuple_lst, tuple_tup, list_lst, list_tup, ix_tup, ix_lst, ix_frl, ix_frt, sl_tup, sl_lst, tg_d, tg_fr, tg_loc, cellV_lst, cellV_dK, cellV_dT, eq_int, ne_int, eq_bl, ne_bl, in_ints_tup, in_ints_lst, atI_0, atI_1, atI_2, atI_3, st_len, st_at, st_at1, st_set, st_set1, st_take, st_take1, st_all, st_lt, List.map_cons, List.map_nil, List.length_cons, List.length_nil, List.length_map, List.getElem?_cons_zero, List.getElem?_cons_succ, List.set_cons_zero, List.set_cons_succ, List.cons_append, List.nil_append, List.append_nil, List.replicate_succ, List.replicate_zero, List.append_assoc, Nat.reduceAdd, Nat.reduceSub, Nat.reduceLT, Nat.zero_add, Nat.add_zero, true_implies, false_implies, and_true, true_and, implies_true, List.length_set, take_set, List.getElem?_set_self, Bool.not_true, decide_true, decide_false, Bool.not_false, decide_eq_true_eq, decide_eq_false_iff_not, Bool.true_eq_false, Bool.false_eq_true, Option.some.injEq, exists_eq_left, exists_eq_left', R.d.injEq, D.int.injEq, D.bl.injEq, if_true, if_false, reduceIte, not_true_eq_false, not_false_eq_true, List.take_zero, List.take_succ_cons, and_self, Option.map_some, Bool.false_xor, Bool.and_self, Bool.true_and, Bool.and_true, Bool.true_xor, spring_eq m.mo hb3 hbe (show e - b < 1000 by omega), wit_tup]
      rw [List.length_map] at hfl
      exact ⟨fits_small (by omega), trivial⟩
    · intro d hd
      simp (maxSteps := 4000000) only [fit0, fit1, fit2, fit3, fit4, fit5, fit6, fit7, fit8, fit9, fit10, fit11, fit12, fit13, fit14, fit15, fit16, fit17, fit18, fit19, fit20, fit21, fit22, fit23, fit24, fit25, fit26, fit27, fit28, fit29, fit30, tame_int, tame_bl, tame_non, tame_tup2, tames_nil, tames_cons, w_seq, KS_nx, KS_rt, KS_bk, KS_ct, w_next, w_set, w_setM, w_drop, w_ret, w_retN, w_brk, w_cnt, w_if, w_asg, w_parB, w_parC, w_N, w_N0, w_N1, w_NT, KF_nx, KF_rt, w_fun, fin_d, fin_fr, w_fin, WE_some, WT_some, WA_some, WI_some, WS_some, WV_d, WV_fr, WV_loc, WVT_d, WVT_fr, WB_bl, WF_fr, WG_some, WO_some, WO_ite, WO_map, w_var, w_C, w_op, w_un, w_test, w_chain, w_and, w_or, w_not, w_VT, w_ifE, w_A0, w_A1, w_call, w_blt, w_curs0, w_curs1, w_vals0, w_vals1, w_tup, w_lst, w_yes, WL_loc, w_app, w_pop, w_rev, w_put, w_getI, w_isi, w_p0, w_p1, w_sl, w_lstR, w_tupR, w_newK, w_newT, KL_nx, KL_ct, KL_bk, KL_rt, wipeE, clr_nil, clr_cons, c1_none, c1_d, c1_loc, WC_z, WC_s, lt_a1, lt_a2, lt_a3, st_take2, put_lst, put_dK, kit_bb, kit_ib, kit_ii, kit_sb, kit_si, kit_ss, kit_tb, kit_ti, kit_ts, kit_tt, ty_int, ty_bl, ty_str, ty_tup, add_int, add_str, add_tup, add_lst, sub_int, mul_int', mul_lst, fdiv_int, mod_int, pow_int, neg_int, lt_int', le_int', gt_int', ge_int', is_non, isn_non, is_bl, isn_bl, isNon_int, isNon_str, isNon_tup, isNon_bl, isNon_non, len_str, len_tup, len_lst, len_frl, len_dK, int_int, int_bl, abs_int, sum_lst, any_lst, all_lst, max2_int, min2_int, tuple_lst, tuple_tup, list_lst, list_tup, ix_tup, ix_lst, ix_frl, ix_frt, sl_tup, sl_lst, tg_d, tg_fr, tg_loc, cellV_lst, cellV_dK, cellV_dT, eq_int, ne_int, eq_bl, ne_bl, in_ints_tup, in_ints_lst, atI_0, atI_1, atI_2, atI_3, st_len, st_at, st_at1, st_set, st_set1, st_take, st_take1, st_all, st_lt, List.map_cons, List.map_nil, List.length_cons, List.length_nil, List.length_map, List.getElem?_cons_zero, List.getElem?_cons_succ, List.set_cons_zero, List.set_cons_succ, List.cons_append, List.nil_append, List.append_nil, List.replicate_succ, List.replicate_zero, List.append_assoc, Nat.reduceAdd, Nat.reduceSub, Nat.reduceLT, Nat.zero_add, Nat.add_zero, true_implies, false_implies, and_true, true_and, implies_true, List.length_set, take_set, List.getElem?_set_self, Bool.not_true, decide_true, decide_false, Bool.not_false, decide_eq_true_eq, decide_eq_false_iff_not, Bool.true_eq_false, Bool.false_eq_true, Option.some.injEq, exists_eq_left, exists_eq_left', R.d.injEq, D.int.injEq, D.bl.injEq, if_true, if_false, reduceIte, not_true_eq_false, not_false_eq_true, List.take_zero, List.take_succ_cons, and_self, Option.map_some, Bool.false_xor, Bool.and_self, Bool.true_and, Bool.and_true, Bool.true_xor]
end K92

set_option Elab.async false
set_option linter.all false
set_option maxRecDepth 100000
set_option maxHeartbeats 4000000
namespace K92
open PySem DL
open L2 (atI)
theorem sm300 {n : Int} (h : n.natAbs < 2 ^ 10 := by decide) : n.natAbs < 2 ^ 300 := Nat.lt_of_lt_of_le h (p2_mono (by decide))
abbrev q72 : Rat := 7 / 2
abbrev q53 : Rat := 5 / 3
theorem q72_Q : D.tup [.int 7, .int 2] = encQ q72 := by
  unfold encQ
  rw [show q72.num = 7 by decide +kernel, show q72.den = 2 by decide +kernel]; rfl
theorem q53_Q : D.tup [.int 5, .int 3] = encQ q53 := by
  unfold encQ
  rw [show q53.num = 5 by decide +kernel, show q53.den = 3 by decide +kernel]; rfl
theorem eight_Q : D.tup [.int 8, .int 1] = encQ 8 := rfl
theorem szq {q : Rat} {a b : Nat} (h1 : q.num.natAbs = a) (h2 : q.den = b) (h3 : a < 2 ^ 10) (h4 : b < 2 ^ 10) : Sz 300 q := ⟨by rw [h1]; exact Nat.lt_of_lt_of_le h3 (p2_mono (by decide)), by rw [h2]; exact Nat.lt_of_lt_of_le h4 (p2_mono (by decide))⟩
theorem sz72 : Sz 300 q72 := szq (a := 7) (b := 2) (by decide +kernel) (by decide +kernel) (by decide) (by decide)
theorem sz53 : Sz 300 q53 := szq (a := 5) (b := 3) (by decide +kernel) (by decide +kernel) (by decide) (by decide)
theorem mA : Mo (1 / 2) 4 := ⟨sz_half.mono (by decide), sz_4.mono (by decide), by decide +kernel⟩
theorem mB : Mo 0 q72 := ⟨sz_0.mono (by decide), sz72, by decide +kernel⟩
theorem mC : Mo q53 q72 := ⟨sz53, sz72, by decide +kernel⟩
theorem mD : Mo 0 8 := ⟨sz_0.mono (by decide), szq (a := 8) (b := 1) rfl rfl (by decide) (by decide), by decide +kernel⟩
theorem g1 (st : Sto) : F_spring_days [.d (encQ (1 / 2)), .d (encQ 4), .d (.int 0), .d (.int 9)] st = some (.d (.tup [.int 0, .int 2, .int 4, .int 6, .int 8]), st) := by
  rw [spring_eq mA sm300 (by decide) (by decide), show (daysIn 0 9).filter (mSpr (1 / 2) 4) = [0, 2, 4, 6, 8] by decide +kernel]; rfl
theorem g2 (st : Sto) : F_moons_between [.d (encQ 0), .d (encQ q72), .d (.int 0), .d (.int 8)] st = some (.d (.int 3), st) := by rw [between_eq mB sm300 sm300, show max (mNxt 0 q72 8 - mNxt 0 q72 0) 0 = 3 by decide +kernel]
theorem g3 (st : Sto) : F_age_at [.d (encQ 0), .d (encQ q72), .d (.int 4)] st = some (.d (encQ (1 / 2)), st) := by rw [age_eq mB sm300, show mAge 0 q72 4 = 1 / 2 by decide +kernel]
theorem g4 (st : Sto) : F_same_age [.d (encQ q53), .d (encQ q72), .d (.int 1), .d (.int 8)] st = some (.d (.bl true), st) := by rw [same_age_eq mC sm300 sm300, show decide (mAge q53 q72 1 = mAge q53 q72 8) = true by decide +kernel]
theorem g5 (st : Sto) : F_quarter_at [.d (encQ 0), .d (encQ 8), .d (.int 6)] st = some (.d (.int 3), st) := by rw [quarter_eq mD sm300, show (4 * mAge 0 8 6 / 8).floor = 3 by decide +kernel]
theorem s8 (st : Sto) : F__law_same 12 [.d (.tup [.int 0, .int 2, .int 4, .int 6, .int 8]), .d (.tup [.int 0, .int 2, .int 4, .int 6, .int 8])] st = some (.d (.bl true), st) := same12 (by decide +kernel)
theorem two_of {a b v : Int} (h0 : 0 ≤ v) (h1 : v < 2) : ∃ w, (w = a ∨ w = b) ∧ atI [D.int a, D.int b] v = some (.int w) := by
  rcases (show v = 0 ∨ v = 1 by omega) with rfl | rfl
  · exact ⟨a, .inl rfl, rfl⟩
  · exact ⟨b, .inr rfl, rfl⟩
set_option maxHeartbeats 0 in
theorem law_ok {ns : List Int} (hl : ns.length ≤ 63) : WE (F_law [.d (.frl (ns.map D.int))] []) fun r _ => r = .d (.bl true) := by
  obtain ⟨ds0, hd0⟩ := draws_ok (ns := ns) (m := 500) (st := []) hl (by decide)
  have hd0' : F__law_draws [.d (.frl (ns.map D.int)), .d (.int 500)] [] = some (.fr (.lst (ds0.map D.int)), []) := hd0
  have pp := p150
  unfold F_law
  simp (maxSteps := 4000000) only [w_seq, KS_nx, KS_rt, KS_bk, KS_ct, w_next, w_set, w_setM, w_drop, w_ret, w_retN, w_brk, w_cnt, w_if, w_asg, w_parB, w_parC, w_N, w_N0, w_N1, w_NT, KF_nx, KF_rt, w_fun, fin_d, fin_fr, w_fin, WE_some, WT_some, WA_some, WI_some, WS_some, WV_d, WV_fr, WV_loc, WVT_d, WVT_fr, WB_bl, WF_fr, WG_some, WO_some, WO_ite, WO_map, w_var, w_C, w_op, w_un, w_test, w_chain, w_and, w_or, w_not, w_VT, w_ifE, w_A0, w_A1, w_call, w_blt, w_curs0, w_curs1, w_vals0, w_vals1, w_tup, w_lst, w_yes, WL_loc, w_app, w_pop, w_rev, w_put, w_getI, w_isi, w_p0, w_p1, w_sl, w_lstR, w_tupR, w_newK, w_newT, KL_nx, KL_ct, KL_bk, KL_rt, wipeE, clr_nil, clr_cons, c1_none, c1_d, c1_loc, WC_z, WC_s, lt_a1, lt_a2, lt_a3, st_take2, put_lst, put_dK, kit_bb, kit_ib, kit_ii, kit_sb, kit_si, kit_ss, kit_tb, kit_ti, kit_ts, kit_tt, ty_int, ty_bl, ty_str, ty_tup, add_int, add_str, add_tup, add_lst, sub_int, mul_int', mul_lst, fdiv_int, mod_int, pow_int, neg_int, lt_int', le_int', gt_int', ge_int', is_non, isn_non, is_bl, isn_bl, isNon_int, isNon_str, isNon_tup, isNon_bl, isNon_non, len_str, len_tup, len_lst, len_frl, len_dK, int_int, int_bl, abs_int, sum_lst, any_lst, all_lst, max2_int, min2_int, tuple_lst, tuple_tup, list_lst, list_tup, ix_tup, ix_lst, ix_frl, ix_frt, sl_tup, sl_lst, tg_d, tg_fr, tg_loc, cellV_lst, cellV_dK, cellV_dT, eq_int, ne_int, eq_bl, ne_bl, in_ints_tup, in_ints_lst, atI_0, atI_1, atI_2, atI_3, st_len, st_at, st_at1, st_set, st_set1, st_take, st_take1, st_all, st_lt, List.map_cons, List.map_nil, List.length_cons, List.length_nil, List.length_map, List.getElem?_cons_zero, List.getElem?_cons_succ, List.set_cons_zero, List.set_cons_succ, List.cons_append, List.nil_append, List.append_nil, List.replicate_succ, List.replicate_zero, List.append_assoc, Nat.reduceAdd, Nat.reduceSub, Nat.reduceLT, Nat.zero_add, Nat.add_zero, true_implies, false_implies, and_true, true_and, implies_true, List.length_set, take_set, List.getElem?_set_self, Bool.not_true, decide_true, decide_false, Bool.not_false, decide_eq_true_eq, decide_eq_false_iff_not, Bool.true_eq_false, Bool.false_eq_true, Option.some.injEq, exists_eq_left, exists_eq_left', R.d.injEq, D.int.injEq, D.bl.injEq, if_true, if_false, reduceIte, not_true_eq_false, not_false_eq_true, List.take_zero, List.take_succ_cons, and_self, Option.map_some, Bool.false_xor, Bool.and_self, Bool.true_and, Bool.and_true, Bool.true_xor, hd0']
  refine w_for (n := 1) (fun i : Nat => D.int (i : Int)) (List.range 2) (fun done e s => (∃ x2 x3 x4 x5 x6 x7 x8 x9 x10, e = [some (.d (.frl (ns.map D.int))), some (.loc 0), x2, x3, x4, x5, x6, x7, x8, x9, x10]) ∧ ∃ ds : List Int, s = [.lst (ds.map D.int)]) (wi_rng1 ?_) ?_ ?_
  · simp only [w_seq, KS_nx, KS_rt, KS_bk, KS_ct, w_next, w_set, w_setM, w_drop, w_ret, w_retN, w_brk, w_cnt, w_if, w_asg, w_parB, w_parC, w_N, w_N0, w_N1, w_NT, KF_nx, KF_rt, w_fun, fin_d, fin_fr, w_fin, WE_some, WT_some, WA_some, WI_some, WS_some, WV_d, WV_fr, WV_loc, WVT_d, WVT_fr, WB_bl, WF_fr, WG_some, WO_some, WO_ite, WO_map, w_var, w_C, w_op, w_un, w_test, w_chain, w_and, w_or, w_not, w_VT, w_ifE, w_A0, w_A1, w_call, w_blt, w_curs0, w_curs1, w_vals0, w_vals1, w_tup, w_lst, w_yes, WL_loc, w_app, w_pop, w_rev, w_put, w_getI, w_isi, w_p0, w_p1, w_sl, w_lstR, w_tupR, w_newK, w_newT, KL_nx, KL_ct, KL_bk, KL_rt, wipeE, clr_nil, clr_cons, c1_none, c1_d, c1_loc, WC_z, WC_s, lt_a1, lt_a2, lt_a3, st_take2, put_lst, put_dK, kit_bb, kit_ib, kit_ii, kit_sb, kit_si, kit_ss, kit_tb, kit_ti, kit_ts, kit_tt, ty_int, ty_bl, ty_str, ty_tup, add_int, add_str, add_tup, add_lst, sub_int, mul_int', mul_lst, fdiv_int, mod_int, pow_int, neg_int, lt_int', le_int', gt_int', ge_int', is_non, isn_non, is_bl, isn_bl, isNon_int, isNon_str, isNon_tup, isNon_bl, isNon_non, len_str, len_tup, len_lst, len_frl, len_dK, int_int, int_bl, abs_int, sum_lst, any_lst, all_lst, max2_int, min2_int, tuple_lst, tuple_tup, list_lst, list_tup, ix_tup, ix_lst, ix_frl, ix_frt, sl_tup, sl_lst, tg_d, tg_fr, tg_loc, cellV_lst, cellV_dK, cellV_dT, eq_int, ne_int, eq_bl, ne_bl, in_ints_tup, in_ints_lst, atI_0, atI_1, atI_2, atI_3, st_len, st_at, st_at1, st_set, st_set1, st_take, st_take1, st_all, st_lt, List.map_cons, List.map_nil, List.length_cons, List.length_nil, List.length_map, List.getElem?_cons_zero, List.getElem?_cons_succ, List.set_cons_zero, List.set_cons_succ, List.cons_append, List.nil_append, List.append_nil, List.replicate_succ, List.replicate_zero, List.append_assoc, Nat.reduceAdd, Nat.reduceSub, Nat.reduceLT, Nat.zero_add, Nat.add_zero, true_implies, false_implies, and_true, true_and, implies_true, List.length_set, take_set, List.getElem?_set_self, Bool.not_true, decide_true, decide_false, Bool.not_false, decide_eq_true_eq, decide_eq_false_iff_not, Bool.true_eq_false, Bool.false_eq_true, Option.some.injEq, exists_eq_left, exists_eq_left', R.d.injEq, D.int.injEq, D.bl.injEq, if_true, if_false, reduceIte, not_true_eq_false, not_false_eq_true, List.take_zero, List.take_succ_cons, and_self, Option.map_some, Bool.false_xor, Bool.and_self, Bool.true_and, Bool.and_true, Bool.true_xor]
    exact ⟨sm_int (by decide) (by decide), by rw [show Int.toNat 2 = 2 from rfl, rg0], ⟨⟨_, _, _, _, _, _, _, _, _, rfl⟩, ds0, rfl⟩, fun _ _ _ _ => trivial⟩
  · rintro done turning rest e s he ⟨⟨x2, x3, x4, x5, x6, x7, x8, x9, x10, rfl⟩, ds, rfl⟩
    simp (maxSteps := 4000000) only [fit0, fit1, fit2, fit3, fit4, fit5, fit6, fit7, fit8, fit9, fit10, fit11, fit12, fit13, fit14, fit15, fit16, fit17, fit18, fit19, fit20, fit21, fit22, fit23, fit24, fit25, fit26, fit27, fit28, fit29, fit30, tame_int, tame_bl, tame_non, tame_tup2, tames_nil, tames_cons, w_seq, KS_nx, KS_rt, KS_bk, KS_ct, w_next, w_set, w_setM, w_drop, w_ret, w_retN, w_brk, w_cnt, w_if, w_asg, w_parB, w_parC, w_N, w_N0, w_N1, w_NT, KF_nx, KF_rt, w_fun, fin_d, fin_fr, w_fin, WE_some, WT_some, WA_some, WI_some, WS_some, WV_d, WV_fr, WV_loc, WVT_d, WVT_fr, WB_bl, WF_fr, WG_some, WO_some, WO_ite, WO_map, w_var, w_C, w_op, w_un, w_test, w_chain, w_and, w_or, w_not, w_VT, w_ifE, w_A0, w_A1, w_call, w_blt, w_curs0, w_curs1, w_vals0, w_vals1, w_tup, w_lst, w_yes, WL_loc, w_app, w_pop, w_rev, w_put, w_getI, w_isi, w_p0, w_p1, w_sl, w_lstR, w_tupR, w_newK, w_newT, KL_nx, KL_ct, KL_bk, KL_rt, wipeE, clr_nil, clr_cons, c1_none, c1_d, c1_loc, WC_z, WC_s, lt_a1, lt_a2, lt_a3, st_take2, put_lst, put_dK, kit_bb, kit_ib, kit_ii, kit_sb, kit_si, kit_ss, kit_tb, kit_ti, kit_ts, kit_tt, ty_int, ty_bl, ty_str, ty_tup, add_int, add_str, add_tup, add_lst, sub_int, mul_int', mul_lst, fdiv_int, mod_int, pow_int, neg_int, lt_int', le_int', gt_int', ge_int', is_non, isn_non, is_bl, isn_bl, isNon_int, isNon_str, isNon_tup, isNon_bl, isNon_non, len_str, len_tup, len_lst, len_frl, len_dK, int_int, int_bl, abs_int, sum_lst, any_lst, all_lst, max2_int, min2_int, tuple_lst, tuple_tup, list_lst, list_tup, ix_tup, ix_lst, ix_frl, ix_frt, sl_tup, sl_lst, tg_d, tg_fr, tg_loc, cellV_lst, cellV_dK, cellV_dT, eq_int, ne_int, eq_bl, ne_bl, in_ints_tup, in_ints_lst, atI_0, atI_1, atI_2, atI_3, st_len, st_at, st_at1, st_set, st_set1, st_take, st_take1, st_all, st_lt, List.map_cons, List.map_nil, List.length_cons, List.length_nil, List.length_map, List.getElem?_cons_zero, List.getElem?_cons_succ, List.set_cons_zero, List.set_cons_succ, List.cons_append, List.nil_append, List.append_nil, List.replicate_succ, List.replicate_zero, List.append_assoc, Nat.reduceAdd, Nat.reduceSub, Nat.reduceLT, Nat.zero_add, Nat.add_zero, true_implies, false_implies, and_true, true_and, implies_true, List.length_set, take_set, List.getElem?_set_self, Bool.not_true, decide_true, decide_false, Bool.not_false, decide_eq_true_eq, decide_eq_false_iff_not, Bool.true_eq_false, Bool.false_eq_true, Option.some.injEq, exists_eq_left, exists_eq_left', R.d.injEq, D.int.injEq, D.bl.injEq, if_true, if_false, reduceIte, not_true_eq_false, not_false_eq_true, List.take_zero, List.take_succ_cons, and_self, Option.map_some, Bool.false_xor, Bool.and_self, Bool.true_and, Bool.and_true, Bool.true_xor]
    refine moon_ok fun new turn ds m => ?_
    simp (maxSteps := 4000000) only [fit0, fit1, fit2, fit3, fit4, fit5, fit6, fit7, fit8, fit9, fit10, fit11, fit12, fit13, fit14, fit15, fit16, fit17, fit18, fit19, fit20, fit21, fit22, fit23, fit24, fit25, fit26, fit27, fit28, fit29, fit30, tame_int, tame_bl, tame_non, tame_tup2, tames_nil, tames_cons, w_seq, KS_nx, KS_rt, KS_bk, KS_ct, w_next, w_set, w_setM, w_drop, w_ret, w_retN, w_brk, w_cnt, w_if, w_asg, w_parB, w_parC, w_N, w_N0, w_N1, w_NT, KF_nx, KF_rt, w_fun, fin_d, fin_fr, w_fin, WE_some, WT_some, WA_some, WI_some, WS_some, WV_d, WV_fr, WV_loc, WVT_d, WVT_fr, WB_bl, WF_fr, WG_some, WO_some, WO_ite, WO_map, w_var, w_C, w_op, w_un, w_test, w_chain, w_and, w_or, w_not, w_VT, w_ifE, w_A0, w_A1, w_call, w_blt, w_curs0, w_curs1, w_vals0, w_vals1, w_tup, w_lst, w_yes, WL_loc, w_app, w_pop, w_rev, w_put, w_getI, w_isi, w_p0, w_p1, w_sl, w_lstR, w_tupR, w_newK, w_newT, KL_nx, KL_ct, KL_bk, KL_rt, wipeE, clr_nil, clr_cons, c1_none, c1_d, c1_loc, WC_z, WC_s, lt_a1, lt_a2, lt_a3, st_take2, put_lst, put_dK, kit_bb, kit_ib, kit_ii, kit_sb, kit_si, kit_ss, kit_tb, kit_ti, kit_ts, kit_tt, ty_int, ty_bl, ty_str, ty_tup, add_int, add_str, add_tup, add_lst, sub_int, mul_int', mul_lst, fdiv_int, mod_int, pow_int, neg_int, lt_int', le_int', gt_int', ge_int', is_non, isn_non, is_bl, isn_bl, isNon_int, isNon_str, isNon_tup, isNon_bl, isNon_non, len_str, len_tup, len_lst, len_frl, len_dK, int_int, int_bl, abs_int, sum_lst, any_lst, all_lst, max2_int, min2_int, tuple_lst, tuple_tup, list_lst, list_tup, ix_tup, ix_lst, ix_frl, ix_frt, sl_tup, sl_lst, tg_d, tg_fr, tg_loc, cellV_lst, cellV_dK, cellV_dT, eq_int, ne_int, eq_bl, ne_bl, in_ints_tup, in_ints_lst, atI_0, atI_1, atI_2, atI_3, st_len, st_at, st_at1, st_set, st_set1, st_take, st_take1, st_all, st_lt, List.map_cons, List.map_nil, List.length_cons, List.length_nil, List.length_map, List.getElem?_cons_zero, List.getElem?_cons_succ, List.set_cons_zero, List.set_cons_succ, List.cons_append, List.nil_append, List.append_nil, List.replicate_succ, List.replicate_zero, List.append_assoc, Nat.reduceAdd, Nat.reduceSub, Nat.reduceLT, Nat.zero_add, Nat.add_zero, true_implies, false_implies, and_true, true_and, implies_true, List.length_set, take_set, List.getElem?_set_self, Bool.not_true, decide_true, decide_false, Bool.not_false, decide_eq_true_eq, decide_eq_false_iff_not, Bool.true_eq_false, Bool.false_eq_true, Option.some.injEq, exists_eq_left, exists_eq_left', R.d.injEq, D.int.injEq, D.bl.injEq, if_true, if_false, reduceIte, not_true_eq_false, not_false_eq_true, List.take_zero, List.take_succ_cons, and_self, Option.map_some, Bool.false_xor, Bool.and_self, Bool.true_and, Bool.and_true, Bool.true_xor]
    refine take_ok rfl (by decide) fun v ds v0 v1 => ?_
    obtain ⟨b, hb⟩ : ∃ b, v - 80 = b := ⟨_, rfl⟩
    simp (maxSteps := 4000000) only [fit0, fit1, fit2, fit3, fit4, fit5, fit6, fit7, fit8, fit9, fit10, fit11, fit12, fit13, fit14, fit15, fit16, fit17, fit18, fit19, fit20, fit21, fit22, fit23, fit24, fit25, fit26, fit27, fit28, fit29, fit30, tame_int, tame_bl, tame_non, tame_tup2, tames_nil, tames_cons, w_seq, KS_nx, KS_rt, KS_bk, KS_ct, w_next, w_set, w_setM, w_drop, w_ret, w_retN, w_brk, w_cnt, w_if, w_asg, w_parB, w_parC, w_N, w_N0, w_N1, w_NT, KF_nx, KF_rt, w_fun, fin_d, fin_fr, w_fin, WE_some, WT_some, WA_some, WI_some, WS_some, WV_d, WV_fr, WV_loc, WVT_d, WVT_fr, WB_bl, WF_fr, WG_some, WO_some, WO_ite, WO_map, w_var, w_C, w_op, w_un, w_test, w_chain, w_and, w_or, w_not, w_VT, w_ifE, w_A0, w_A1, w_call, w_blt, w_curs0, w_curs1, w_vals0, w_vals1, w_tup, w_lst, w_yes, WL_loc, w_app, w_pop, w_rev, w_put, w_getI, w_isi, w_p0, w_p1, w_sl, w_lstR, w_tupR, w_newK, w_newT, KL_nx, KL_ct, KL_bk, KL_rt, wipeE, clr_nil, clr_cons, c1_none, c1_d, c1_loc, WC_z, WC_s, lt_a1, lt_a2, lt_a3, st_take2, put_lst, put_dK, kit_bb, kit_ib, kit_ii, kit_sb, kit_si, kit_ss, kit_tb, kit_ti, kit_ts, kit_tt, ty_int, ty_bl, ty_str, ty_tup, add_int, add_str, add_tup, add_lst, sub_int, mul_int', mul_lst, fdiv_int, mod_int, pow_int, neg_int, lt_int', le_int', gt_int', ge_int', is_non, isn_non, is_bl, isn_bl, isNon_int, isNon_str, isNon_tup, isNon_bl, isNon_non, len_str, len_tup, len_lst, len_frl, len_dK, int_int, int_bl, abs_int, sum_lst, any_lst, all_lst, max2_int, min2_int, tuple_lst, tuple_tup, list_lst, list_tup, ix_tup, ix_lst, ix_frl, ix_frt, sl_tup, sl_lst, tg_d, tg_fr, tg_loc, cellV_lst, cellV_dK, cellV_dT, eq_int, ne_int, eq_bl, ne_bl, in_ints_tup, in_ints_lst, atI_0, atI_1, atI_2, atI_3, st_len, st_at, st_at1, st_set, st_set1, st_take, st_take1, st_all, st_lt, List.map_cons, List.map_nil, List.length_cons, List.length_nil, List.length_map, List.getElem?_cons_zero, List.getElem?_cons_succ, List.set_cons_zero, List.set_cons_succ, List.cons_append, List.nil_append, List.append_nil, List.replicate_succ, List.replicate_zero, List.append_assoc, Nat.reduceAdd, Nat.reduceSub, Nat.reduceLT, Nat.zero_add, Nat.add_zero, true_implies, false_implies, and_true, true_and, implies_true, List.length_set, take_set, List.getElem?_set_self, Bool.not_true, decide_true, decide_false, Bool.not_false, decide_eq_true_eq, decide_eq_false_iff_not, Bool.true_eq_false, Bool.false_eq_true, Option.some.injEq, exists_eq_left, exists_eq_left', R.d.injEq, D.int.injEq, D.bl.injEq, if_true, if_false, reduceIte, not_true_eq_false, not_false_eq_true, List.take_zero, List.take_succ_cons, and_self, Option.map_some, Bool.false_xor, Bool.and_self, Bool.true_and, Bool.and_true, Bool.true_xor, hb]
    refine take_ok rfl (by decide) fun a1 ds a0 a1' => ?_
    obtain ⟨w1, hw1, ew1⟩ := ix_two (a := 61) (b := 200) (v := 0) (c := a1 = 0)
    simp (maxSteps := 4000000) only [fit0, fit1, fit2, fit3, fit4, fit5, fit6, fit7, fit8, fit9, fit10, fit11, fit12, fit13, fit14, fit15, fit16, fit17, fit18, fit19, fit20, fit21, fit22, fit23, fit24, fit25, fit26, fit27, fit28, fit29, fit30, tame_int, tame_bl, tame_non, tame_tup2, tames_nil, tames_cons, w_seq, KS_nx, KS_rt, KS_bk, KS_ct, w_next, w_set, w_setM, w_drop, w_ret, w_retN, w_brk, w_cnt, w_if, w_asg, w_parB, w_parC, w_N, w_N0, w_N1, w_NT, KF_nx, KF_rt, w_fun, fin_d, fin_fr, w_fin, WE_some, WT_some, WA_some, WI_some, WS_some, WV_d, WV_fr, WV_loc, WVT_d, WVT_fr, WB_bl, WF_fr, WG_some, WO_some, WO_ite, WO_map, w_var, w_C, w_op, w_un, w_test, w_chain, w_and, w_or, w_not, w_VT, w_ifE, w_A0, w_A1, w_call, w_blt, w_curs0, w_curs1, w_vals0, w_vals1, w_tup, w_lst, w_yes, WL_loc, w_app, w_pop, w_rev, w_put, w_getI, w_isi, w_p0, w_p1, w_sl, w_lstR, w_tupR, w_newK, w_newT, KL_nx, KL_ct, KL_bk, KL_rt, wipeE, clr_nil, clr_cons, c1_none, c1_d, c1_loc, WC_z, WC_s, lt_a1, lt_a2, lt_a3, st_take2, put_lst, put_dK, kit_bb, kit_ib, kit_ii, kit_sb, kit_si, kit_ss, kit_tb, kit_ti, kit_ts, kit_tt, ty_int, ty_bl, ty_str, ty_tup, add_int, add_str, add_tup, add_lst, sub_int, mul_int', mul_lst, fdiv_int, mod_int, pow_int, neg_int, lt_int', le_int', gt_int', ge_int', is_non, isn_non, is_bl, isn_bl, isNon_int, isNon_str, isNon_tup, isNon_bl, isNon_non, len_str, len_tup, len_lst, len_frl, len_dK, int_int, int_bl, abs_int, sum_lst, any_lst, all_lst, max2_int, min2_int, tuple_lst, tuple_tup, list_lst, list_tup, ix_tup, ix_lst, ix_frl, ix_frt, sl_tup, sl_lst, tg_d, tg_fr, tg_loc, cellV_lst, cellV_dK, cellV_dT, eq_int, ne_int, eq_bl, ne_bl, in_ints_tup, in_ints_lst, atI_0, atI_1, atI_2, atI_3, st_len, st_at, st_at1, st_set, st_set1, st_take, st_take1, st_all, st_lt, List.map_cons, List.map_nil, List.length_cons, List.length_nil, List.length_map, List.getElem?_cons_zero, List.getElem?_cons_succ, List.set_cons_zero, List.set_cons_succ, List.cons_append, List.nil_append, List.append_nil, List.replicate_succ, List.replicate_zero, List.append_assoc, Nat.reduceAdd, Nat.reduceSub, Nat.reduceLT, Nat.zero_add, Nat.add_zero, true_implies, false_implies, and_true, true_and, implies_true, List.length_set, take_set, List.getElem?_set_self, Bool.not_true, decide_true, decide_false, Bool.not_false, decide_eq_true_eq, decide_eq_false_iff_not, Bool.true_eq_false, Bool.false_eq_true, Option.some.injEq, exists_eq_left, exists_eq_left', R.d.injEq, D.int.injEq, D.bl.injEq, if_true, if_false, reduceIte, not_true_eq_false, not_false_eq_true, List.take_zero, List.take_succ_cons, and_self, Option.map_some, Bool.false_xor, Bool.and_self, Bool.true_and, Bool.and_true, Bool.true_xor, ew1]
    refine take_ok rfl (by omega) fun w ds w0 w1' => ?_
    obtain ⟨e, hee⟩ : ∃ e, b + w = e := ⟨_, rfl⟩
    have hb3 : b.natAbs < 2 ^ 200 := by omega
    have hb1 : -1000 < b ∧ b < 1000 := by omega
    have hbe : b ≤ e := by omega
    have hez : e - b < 300 := by omega
    simp (maxSteps := 4000000) only [fit0, fit1, fit2, fit3, fit4, fit5, fit6, fit7, fit8, fit9, fit10, fit11, fit12, fit13, fit14, fit15, fit16, fit17, fit18, fit19, fit20, fit21, fit22, fit23, fit24, fit25, fit26, fit27, fit28, fit29, fit30, tame_int, tame_bl, tame_non, tame_tup2, tames_nil, tames_cons, w_seq, KS_nx, KS_rt, KS_bk, KS_ct, w_next, w_set, w_setM, w_drop, w_ret, w_retN, w_brk, w_cnt, w_if, w_asg, w_parB, w_parC, w_N, w_N0, w_N1, w_NT, KF_nx, KF_rt, w_fun, fin_d, fin_fr, w_fin, WE_some, WT_some, WA_some, WI_some, WS_some, WV_d, WV_fr, WV_loc, WVT_d, WVT_fr, WB_bl, WF_fr, WG_some, WO_some, WO_ite, WO_map, w_var, w_C, w_op, w_un, w_test, w_chain, w_and, w_or, w_not, w_VT, w_ifE, w_A0, w_A1, w_call, w_blt, w_curs0, w_curs1, w_vals0, w_vals1, w_tup, w_lst, w_yes, WL_loc, w_app, w_pop, w_rev, w_put, w_getI, w_isi, w_p0, w_p1, w_sl, w_lstR, w_tupR, w_newK, w_newT, KL_nx, KL_ct, KL_bk, KL_rt, wipeE, clr_nil, clr_cons, c1_none, c1_d, c1_loc, WC_z, WC_s, lt_a1, lt_a2, lt_a3, st_take2, put_lst, put_dK, kit_bb, kit_ib, kit_ii, kit_sb, kit_si, kit_ss, kit_tb, kit_ti, kit_ts, kit_tt, ty_int, ty_bl, ty_str, ty_tup, add_int, add_str, add_tup, add_lst, sub_int, mul_int', mul_lst, fdiv_int, mod_int, pow_int, neg_int, lt_int', le_int', gt_int', ge_int', is_non, isn_non, is_bl, isn_bl, isNon_int, isNon_str, isNon_tup, isNon_bl, isNon_non, len_str, len_tup, len_lst, len_frl, len_dK, int_int, int_bl, abs_int, sum_lst, any_lst, all_lst, max2_int, min2_int, tuple_lst, tuple_tup, list_lst, list_tup, ix_tup, ix_lst, ix_frl, ix_frt, sl_tup, sl_lst, tg_d, tg_fr, tg_loc, cellV_lst, cellV_dK, cellV_dT, eq_int, ne_int, eq_bl, ne_bl, in_ints_tup, in_ints_lst, atI_0, atI_1, atI_2, atI_3, st_len, st_at, st_at1, st_set, st_set1, st_take, st_take1, st_all, st_lt, List.map_cons, List.map_nil, List.length_cons, List.length_nil, List.length_map, List.getElem?_cons_zero, List.getElem?_cons_succ, List.set_cons_zero, List.set_cons_succ, List.cons_append, List.nil_append, List.append_nil, List.replicate_succ, List.replicate_zero, List.append_assoc, Nat.reduceAdd, Nat.reduceSub, Nat.reduceLT, Nat.zero_add, Nat.add_zero, true_implies, false_implies, and_true, true_and, implies_true, List.length_set, take_set, List.getElem?_set_self, Bool.not_true, decide_true, decide_false, Bool.not_false, decide_eq_true_eq, decide_eq_false_iff_not, Bool.true_eq_false, Bool.false_eq_true, Option.some.injEq, exists_eq_left, exists_eq_left', R.d.injEq, D.int.injEq, D.bl.injEq, if_true, if_false, reduceIte, not_true_eq_false, not_false_eq_true, List.take_zero, List.take_succ_cons, and_self, Option.map_some, Bool.false_xor, Bool.and_self, Bool.true_and, Bool.and_true, Bool.true_xor, hee, going_on m hb3]
    refine moons_right m hb1 hbe hez fun ds => ?_
    simp (maxSteps := 4000000) only [fit0, fit1, fit2, fit3, fit4, fit5, fit6, fit7, fit8, fit9, fit10, fit11, fit12, fit13, fit14, fit15, fit16, fit17, fit18, fit19, fit20, fit21, fit22, fit23, fit24, fit25, fit26, fit27, fit28, fit29, fit30, tame_int, tame_bl, tame_non, tame_tup2, tames_nil, tames_cons, w_seq, KS_nx, KS_rt, KS_bk, KS_ct, w_next, w_set, w_setM, w_drop, w_ret, w_retN, w_brk, w_cnt, w_if, w_asg, w_parB, w_parC, w_N, w_N0, w_N1, w_NT, KF_nx, KF_rt, w_fun, fin_d, fin_fr, w_fin, WE_some, WT_some, WA_some, WI_some, WS_some, WV_d, WV_fr, WV_loc, WVT_d, WVT_fr, WB_bl, WF_fr, WG_some, WO_some, WO_ite, WO_map, w_var, w_C, w_op, w_un, w_test, w_chain, w_and, w_or, w_not, w_VT, w_ifE, w_A0, w_A1, w_call, w_blt, w_curs0, w_curs1, w_vals0, w_vals1, w_tup, w_lst, w_yes, WL_loc, w_app, w_pop, w_rev, w_put, w_getI, w_isi, w_p0, w_p1, w_sl, w_lstR, w_tupR, w_newK, w_newT, KL_nx, KL_ct, KL_bk, KL_rt, wipeE, clr_nil, clr_cons, c1_none, c1_d, c1_loc, WC_z, WC_s, lt_a1, lt_a2, lt_a3, st_take2, put_lst, put_dK, kit_bb, kit_ib, kit_ii, kit_sb, kit_si, kit_ss, kit_tb, kit_ti, kit_ts, kit_tt, ty_int, ty_bl, ty_str, ty_tup, add_int, add_str, add_tup, add_lst, sub_int, mul_int', mul_lst, fdiv_int, mod_int, pow_int, neg_int, lt_int', le_int', gt_int', ge_int', is_non, isn_non, is_bl, isn_bl, isNon_int, isNon_str, isNon_tup, isNon_bl, isNon_non, len_str, len_tup, len_lst, len_frl, len_dK, int_int, int_bl, abs_int, sum_lst, any_lst, all_lst, max2_int, min2_int, tuple_lst, tuple_tup, list_lst, list_tup, ix_tup, ix_lst, ix_frl, ix_frt, sl_tup, sl_lst, tg_d, tg_fr, tg_loc, cellV_lst, cellV_dK, cellV_dT, eq_int, ne_int, eq_bl, ne_bl, in_ints_tup, in_ints_lst, atI_0, atI_1, atI_2, atI_3, st_len, st_at, st_at1, st_set, st_set1, st_take, st_take1, st_all, st_lt, List.map_cons, List.map_nil, List.length_cons, List.length_nil, List.length_map, List.getElem?_cons_zero, List.getElem?_cons_succ, List.set_cons_zero, List.set_cons_succ, List.cons_append, List.nil_append, List.append_nil, List.replicate_succ, List.replicate_zero, List.append_assoc, Nat.reduceAdd, Nat.reduceSub, Nat.reduceLT, Nat.zero_add, Nat.add_zero, true_implies, false_implies, and_true, true_and, implies_true, List.length_set, take_set, List.getElem?_set_self, Bool.not_true, decide_true, decide_false, Bool.not_false, decide_eq_true_eq, decide_eq_false_iff_not, Bool.true_eq_false, Bool.false_eq_true, Option.some.injEq, exists_eq_left, exists_eq_left', R.d.injEq, D.int.injEq, D.bl.injEq, if_true, if_false, reduceIte, not_true_eq_false, not_false_eq_true, List.take_zero, List.take_succ_cons, and_self, Option.map_some, Bool.false_xor, Bool.and_self, Bool.true_and, Bool.and_true, Bool.true_xor]
    refine changes_right hl m hb1 hbe hez fun ds => ?_
    simp (maxSteps := 4000000) only [fit0, fit1, fit2, fit3, fit4, fit5, fit6, fit7, fit8, fit9, fit10, fit11, fit12, fit13, fit14, fit15, fit16, fit17, fit18, fit19, fit20, fit21, fit22, fit23, fit24, fit25, fit26, fit27, fit28, fit29, fit30, tame_int, tame_bl, tame_non, tame_tup2, tames_nil, tames_cons, w_seq, KS_nx, KS_rt, KS_bk, KS_ct, w_next, w_set, w_setM, w_drop, w_ret, w_retN, w_brk, w_cnt, w_if, w_asg, w_parB, w_parC, w_N, w_N0, w_N1, w_NT, KF_nx, KF_rt, w_fun, fin_d, fin_fr, w_fin, WE_some, WT_some, WA_some, WI_some, WS_some, WV_d, WV_fr, WV_loc, WVT_d, WVT_fr, WB_bl, WF_fr, WG_some, WO_some, WO_ite, WO_map, w_var, w_C, w_op, w_un, w_test, w_chain, w_and, w_or, w_not, w_VT, w_ifE, w_A0, w_A1, w_call, w_blt, w_curs0, w_curs1, w_vals0, w_vals1, w_tup, w_lst, w_yes, WL_loc, w_app, w_pop, w_rev, w_put, w_getI, w_isi, w_p0, w_p1, w_sl, w_lstR, w_tupR, w_newK, w_newT, KL_nx, KL_ct, KL_bk, KL_rt, wipeE, clr_nil, clr_cons, c1_none, c1_d, c1_loc, WC_z, WC_s, lt_a1, lt_a2, lt_a3, st_take2, put_lst, put_dK, kit_bb, kit_ib, kit_ii, kit_sb, kit_si, kit_ss, kit_tb, kit_ti, kit_ts, kit_tt, ty_int, ty_bl, ty_str, ty_tup, add_int, add_str, add_tup, add_lst, sub_int, mul_int', mul_lst, fdiv_int, mod_int, pow_int, neg_int, lt_int', le_int', gt_int', ge_int', is_non, isn_non, is_bl, isn_bl, isNon_int, isNon_str, isNon_tup, isNon_bl, isNon_non, len_str, len_tup, len_lst, len_frl, len_dK, int_int, int_bl, abs_int, sum_lst, any_lst, all_lst, max2_int, min2_int, tuple_lst, tuple_tup, list_lst, list_tup, ix_tup, ix_lst, ix_frl, ix_frt, sl_tup, sl_lst, tg_d, tg_fr, tg_loc, cellV_lst, cellV_dK, cellV_dT, eq_int, ne_int, eq_bl, ne_bl, in_ints_tup, in_ints_lst, atI_0, atI_1, atI_2, atI_3, st_len, st_at, st_at1, st_set, st_set1, st_take, st_take1, st_all, st_lt, List.map_cons, List.map_nil, List.length_cons, List.length_nil, List.length_map, List.getElem?_cons_zero, List.getElem?_cons_succ, List.set_cons_zero, List.set_cons_succ, List.cons_append, List.nil_append, List.append_nil, List.replicate_succ, List.replicate_zero, List.append_assoc, Nat.reduceAdd, Nat.reduceSub, Nat.reduceLT, Nat.zero_add, Nat.add_zero, true_implies, false_implies, and_true, true_and, implies_true, List.length_set, take_set, List.getElem?_set_self, Bool.not_true, decide_true, decide_false, Bool.not_false, decide_eq_true_eq, decide_eq_false_iff_not, Bool.true_eq_false, Bool.false_eq_true, Option.some.injEq, exists_eq_left, exists_eq_left', R.d.injEq, D.int.injEq, D.bl.injEq, if_true, if_false, reduceIte, not_true_eq_false, not_false_eq_true, List.take_zero, List.take_succ_cons, and_self, Option.map_some, Bool.false_xor, Bool.and_self, Bool.true_and, Bool.and_true, Bool.true_xor]
    refine w_for (n := 1) (fun i : Nat => D.int (i : Int)) (List.range 4) (fun done e s => (∃ x2 x5 x6 x7 x8 x9 x10, e = [some (.d (.frl (ns.map D.int))), some (.loc 0), x2, some (.d (encQ new)), some (.d (encQ turn)), x5, x6, x7, x8, x9, x10]) ∧ ∃ ds : List Int, s = [.lst (ds.map D.int)]) (wi_rng1 ?_) ?_ ?_
    · simp only [w_seq, KS_nx, KS_rt, KS_bk, KS_ct, w_next, w_set, w_setM, w_drop, w_ret, w_retN, w_brk, w_cnt, w_if, w_asg, w_parB, w_parC, w_N, w_N0, w_N1, w_NT, KF_nx, KF_rt, w_fun, fin_d, fin_fr, w_fin, WE_some, WT_some, WA_some, WI_some, WS_some, WV_d, WV_fr, WV_loc, WVT_d, WVT_fr, WB_bl, WF_fr, WG_some, WO_some, WO_ite, WO_map, w_var, w_C, w_op, w_un, w_test, w_chain, w_and, w_or, w_not, w_VT, w_ifE, w_A0, w_A1, w_call, w_blt, w_curs0, w_curs1, w_vals0, w_vals1, w_tup, w_lst, w_yes, WL_loc, w_app, w_pop, w_rev, w_put, w_getI, w_isi, w_p0, w_p1, w_sl, w_lstR, w_tupR, w_newK, w_newT, KL_nx, KL_ct, KL_bk, KL_rt, wipeE, clr_nil, clr_cons, c1_none, c1_d, c1_loc, WC_z, WC_s, lt_a1, lt_a2, lt_a3, st_take2, put_lst, put_dK, kit_bb, kit_ib, kit_ii, kit_sb, kit_si, kit_ss, kit_tb, kit_ti, kit_ts, kit_tt, ty_int, ty_bl, ty_str, ty_tup, add_int, add_str, add_tup, add_lst, sub_int, mul_int', mul_lst, fdiv_int, mod_int, pow_int, neg_int, lt_int', le_int', gt_int', ge_int', is_non, isn_non, is_bl, isn_bl, isNon_int, isNon_str, isNon_tup, isNon_bl, isNon_non, len_str, len_tup, len_lst, len_frl, len_dK, int_int, int_bl, abs_int, sum_lst, any_lst, all_lst, max2_int, min2_int, tuple_lst, tuple_tup, list_lst, list_tup, ix_tup, ix_lst, ix_frl, ix_frt, sl_tup, sl_lst, tg_d, tg_fr, tg_loc, cellV_lst, cellV_dK, cellV_dT, eq_int, ne_int, eq_bl, ne_bl, in_ints_tup, in_ints_lst, atI_0, atI_1, atI_2, atI_3, st_len, st_at, st_at1, st_set, st_set1, st_take, st_take1, st_all, st_lt, List.map_cons, List.map_nil, List.length_cons, List.length_nil, List.length_map, List.getElem?_cons_zero, List.getElem?_cons_succ, List.set_cons_zero, List.set_cons_succ, List.cons_append, List.nil_append, List.append_nil, List.replicate_succ, List.replicate_zero, List.append_assoc, Nat.reduceAdd, Nat.reduceSub, Nat.reduceLT, Nat.zero_add, Nat.add_zero, true_implies, false_implies, and_true, true_and, implies_true, List.length_set, take_set, List.getElem?_set_self, Bool.not_true, decide_true, decide_false, Bool.not_false, decide_eq_true_eq, decide_eq_false_iff_not, Bool.true_eq_false, Bool.false_eq_true, Option.some.injEq, exists_eq_left, exists_eq_left', R.d.injEq, D.int.injEq, D.bl.injEq, if_true, if_false, reduceIte, not_true_eq_false, not_false_eq_true, List.take_zero, List.take_succ_cons, and_self, Option.map_some, Bool.false_xor, Bool.and_self, Bool.true_and, Bool.and_true, Bool.true_xor]
      exact ⟨sm_int (by decide) (by decide), by rw [show Int.toNat 4 = 4 from rfl, rg0], ⟨⟨_, _, _, _, _, _, _, rfl⟩, ds, rfl⟩, fun _ _ _ _ => trivial⟩
    · rintro done k rest env s hd ⟨⟨x2, x5, x6, x7, x8, x9, x10, rfl⟩, ds, rfl⟩
      simp (maxSteps := 4000000) only [fit0, fit1, fit2, fit3, fit4, fit5, fit6, fit7, fit8, fit9, fit10, fit11, fit12, fit13, fit14, fit15, fit16, fit17, fit18, fit19, fit20, fit21, fit22, fit23, fit24, fit25, fit26, fit27, fit28, fit29, fit30, tame_int, tame_bl, tame_non, tame_tup2, tames_nil, tames_cons, w_seq, KS_nx, KS_rt, KS_bk, KS_ct, w_next, w_set, w_setM, w_drop, w_ret, w_retN, w_brk, w_cnt, w_if, w_asg, w_parB, w_parC, w_N, w_N0, w_N1, w_NT, KF_nx, KF_rt, w_fun, fin_d, fin_fr, w_fin, WE_some, WT_some, WA_some, WI_some, WS_some, WV_d, WV_fr, WV_loc, WVT_d, WVT_fr, WB_bl, WF_fr, WG_some, WO_some, WO_ite, WO_map, w_var, w_C, w_op, w_un, w_test, w_chain, w_and, w_or, w_not, w_VT, w_ifE, w_A0, w_A1, w_call, w_blt, w_curs0, w_curs1, w_vals0, w_vals1, w_tup, w_lst, w_yes, WL_loc, w_app, w_pop, w_rev, w_put, w_getI, w_isi, w_p0, w_p1, w_sl, w_lstR, w_tupR, w_newK, w_newT, KL_nx, KL_ct, KL_bk, KL_rt, wipeE, clr_nil, clr_cons, c1_none, c1_d, c1_loc, WC_z, WC_s, lt_a1, lt_a2, lt_a3, st_take2, put_lst, put_dK, kit_bb, kit_ib, kit_ii, kit_sb, kit_si, kit_ss, kit_tb, kit_ti, kit_ts, kit_tt, ty_int, ty_bl, ty_str, ty_tup, add_int, add_str, add_tup, add_lst, sub_int, mul_int', mul_lst, fdiv_int, mod_int, pow_int, neg_int, lt_int', le_int', gt_int', ge_int', is_non, isn_non, is_bl, isn_bl, isNon_int, isNon_str, isNon_tup, isNon_bl, isNon_non, len_str, len_tup, len_lst, len_frl, len_dK, int_int, int_bl, abs_int, sum_lst, any_lst, all_lst, max2_int, min2_int, tuple_lst, tuple_tup, list_lst, list_tup, ix_tup, ix_lst, ix_frl, ix_frt, sl_tup, sl_lst, tg_d, tg_fr, tg_loc, cellV_lst, cellV_dK, cellV_dT, eq_int, ne_int, eq_bl, ne_bl, in_ints_tup, in_ints_lst, atI_0, atI_1, atI_2, atI_3, st_len, st_at, st_at1, st_set, st_set1, st_take, st_take1, st_all, st_lt, List.map_cons, List.map_nil, List.length_cons, List.length_nil, List.length_map, List.getElem?_cons_zero, List.getElem?_cons_succ, List.set_cons_zero, List.set_cons_succ, List.cons_append, List.nil_append, List.append_nil, List.replicate_succ, List.replicate_zero, List.append_assoc, Nat.reduceAdd, Nat.reduceSub, Nat.reduceLT, Nat.zero_add, Nat.add_zero, true_implies, false_implies, and_true, true_and, implies_true, List.length_set, take_set, List.getElem?_set_self, Bool.not_true, decide_true, decide_false, Bool.not_false, decide_eq_true_eq, decide_eq_false_iff_not, Bool.true_eq_false, Bool.false_eq_true, Option.some.injEq, exists_eq_left, exists_eq_left', R.d.injEq, D.int.injEq, D.bl.injEq, if_true, if_false, reduceIte, not_true_eq_false, not_false_eq_true, List.take_zero, List.take_succ_cons, and_self, Option.map_some, Bool.false_xor, Bool.and_self, Bool.true_and, Bool.and_true, Bool.true_xor]
      refine take_ok rfl (by decide) fun o ds o0 o1 => ?_
      simp (maxSteps := 4000000) only [fit0, fit1, fit2, fit3, fit4, fit5, fit6, fit7, fit8, fit9, fit10, fit11, fit12, fit13, fit14, fit15, fit16, fit17, fit18, fit19, fit20, fit21, fit22, fit23, fit24, fit25, fit26, fit27, fit28, fit29, fit30, tame_int, tame_bl, tame_non, tame_tup2, tames_nil, tames_cons, w_seq, KS_nx, KS_rt, KS_bk, KS_ct, w_next, w_set, w_setM, w_drop, w_ret, w_retN, w_brk, w_cnt, w_if, w_asg, w_parB, w_parC, w_N, w_N0, w_N1, w_NT, KF_nx, KF_rt, w_fun, fin_d, fin_fr, w_fin, WE_some, WT_some, WA_some, WI_some, WS_some, WV_d, WV_fr, WV_loc, WVT_d, WVT_fr, WB_bl, WF_fr, WG_some, WO_some, WO_ite, WO_map, w_var, w_C, w_op, w_un, w_test, w_chain, w_and, w_or, w_not, w_VT, w_ifE, w_A0, w_A1, w_call, w_blt, w_curs0, w_curs1, w_vals0, w_vals1, w_tup, w_lst, w_yes, WL_loc, w_app, w_pop, w_rev, w_put, w_getI, w_isi, w_p0, w_p1, w_sl, w_lstR, w_tupR, w_newK, w_newT, KL_nx, KL_ct, KL_bk, KL_rt, wipeE, clr_nil, clr_cons, c1_none, c1_d, c1_loc, WC_z, WC_s, lt_a1, lt_a2, lt_a3, st_take2, put_lst, put_dK, kit_bb, kit_ib, kit_ii, kit_sb, kit_si, kit_ss, kit_tb, kit_ti, kit_ts, kit_tt, ty_int, ty_bl, ty_str, ty_tup, add_int, add_str, add_tup, add_lst, sub_int, mul_int', mul_lst, fdiv_int, mod_int, pow_int, neg_int, lt_int', le_int', gt_int', ge_int', is_non, isn_non, is_bl, isn_bl, isNon_int, isNon_str, isNon_tup, isNon_bl, isNon_non, len_str, len_tup, len_lst, len_frl, len_dK, int_int, int_bl, abs_int, sum_lst, any_lst, all_lst, max2_int, min2_int, tuple_lst, tuple_tup, list_lst, list_tup, ix_tup, ix_lst, ix_frl, ix_frt, sl_tup, sl_lst, tg_d, tg_fr, tg_loc, cellV_lst, cellV_dK, cellV_dT, eq_int, ne_int, eq_bl, ne_bl, in_ints_tup, in_ints_lst, atI_0, atI_1, atI_2, atI_3, st_len, st_at, st_at1, st_set, st_set1, st_take, st_take1, st_all, st_lt, List.map_cons, List.map_nil, List.length_cons, List.length_nil, List.length_map, List.getElem?_cons_zero, List.getElem?_cons_succ, List.set_cons_zero, List.set_cons_succ, List.cons_append, List.nil_append, List.append_nil, List.replicate_succ, List.replicate_zero, List.append_assoc, Nat.reduceAdd, Nat.reduceSub, Nat.reduceLT, Nat.zero_add, Nat.add_zero, true_implies, false_implies, and_true, true_and, implies_true, List.length_set, take_set, List.getElem?_set_self, Bool.not_true, decide_true, decide_false, Bool.not_false, decide_eq_true_eq, decide_eq_false_iff_not, Bool.true_eq_false, Bool.false_eq_true, Option.some.injEq, exists_eq_left, exists_eq_left', R.d.injEq, D.int.injEq, D.bl.injEq, if_true, if_false, reduceIte, not_true_eq_false, not_false_eq_true, List.take_zero, List.take_succ_cons, and_self, Option.map_some, Bool.false_xor, Bool.and_self, Bool.true_and, Bool.and_true, Bool.true_xor, ix_Q0]
      refine take_ok rfl (by decide) fun t ds t0 t1 => ?_
      simp (maxSteps := 4000000) only [fit0, fit1, fit2, fit3, fit4, fit5, fit6, fit7, fit8, fit9, fit10, fit11, fit12, fit13, fit14, fit15, fit16, fit17, fit18, fit19, fit20, fit21, fit22, fit23, fit24, fit25, fit26, fit27, fit28, fit29, fit30, tame_int, tame_bl, tame_non, tame_tup2, tames_nil, tames_cons, w_seq, KS_nx, KS_rt, KS_bk, KS_ct, w_next, w_set, w_setM, w_drop, w_ret, w_retN, w_brk, w_cnt, w_if, w_asg, w_parB, w_parC, w_N, w_N0, w_N1, w_NT, KF_nx, KF_rt, w_fun, fin_d, fin_fr, w_fin, WE_some, WT_some, WA_some, WI_some, WS_some, WV_d, WV_fr, WV_loc, WVT_d, WVT_fr, WB_bl, WF_fr, WG_some, WO_some, WO_ite, WO_map, w_var, w_C, w_op, w_un, w_test, w_chain, w_and, w_or, w_not, w_VT, w_ifE, w_A0, w_A1, w_call, w_blt, w_curs0, w_curs1, w_vals0, w_vals1, w_tup, w_lst, w_yes, WL_loc, w_app, w_pop, w_rev, w_put, w_getI, w_isi, w_p0, w_p1, w_sl, w_lstR, w_tupR, w_newK, w_newT, KL_nx, KL_ct, KL_bk, KL_rt, wipeE, clr_nil, clr_cons, c1_none, c1_d, c1_loc, WC_z, WC_s, lt_a1, lt_a2, lt_a3, st_take2, put_lst, put_dK, kit_bb, kit_ib, kit_ii, kit_sb, kit_si, kit_ss, kit_tb, kit_ti, kit_ts, kit_tt, ty_int, ty_bl, ty_str, ty_tup, add_int, add_str, add_tup, add_lst, sub_int, mul_int', mul_lst, fdiv_int, mod_int, pow_int, neg_int, lt_int', le_int', gt_int', ge_int', is_non, isn_non, is_bl, isn_bl, isNon_int, isNon_str, isNon_tup, isNon_bl, isNon_non, len_str, len_tup, len_lst, len_frl, len_dK, int_int, int_bl, abs_int, sum_lst, any_lst, all_lst, max2_int, min2_int, tuple_lst, tuple_tup, list_lst, list_tup, ix_tup, ix_lst, ix_frl, ix_frt, sl_tup, sl_lst, tg_d, tg_fr, tg_loc, cellV_lst, cellV_dK, cellV_dT, eq_int, ne_int, eq_bl, ne_bl, in_ints_tup, in_ints_lst, atI_0, atI_1, atI_2, atI_3, st_len, st_at, st_at1, st_set, st_set1, st_take, st_take1, st_all, st_lt, List.map_cons, List.map_nil, List.length_cons, List.length_nil, List.length_map, List.getElem?_cons_zero, List.getElem?_cons_succ, List.set_cons_zero, List.set_cons_succ, List.cons_append, List.nil_append, List.append_nil, List.replicate_succ, List.replicate_zero, List.append_assoc, Nat.reduceAdd, Nat.reduceSub, Nat.reduceLT, Nat.zero_add, Nat.add_zero, true_implies, false_implies, and_true, true_and, implies_true, List.length_set, take_set, List.getElem?_set_self, Bool.not_true, decide_true, decide_false, Bool.not_false, decide_eq_true_eq, decide_eq_false_iff_not, Bool.true_eq_false, Bool.false_eq_true, Option.some.injEq, exists_eq_left, exists_eq_left', R.d.injEq, D.int.injEq, D.bl.injEq, if_true, if_false, reduceIte, not_true_eq_false, not_false_eq_true, List.take_zero, List.take_succ_cons, and_self, Option.map_some, Bool.false_xor, Bool.and_self, Bool.true_and, Bool.and_true, Bool.true_xor]
      refine ⟨mulOk_r (by omega) (by omega), ?_⟩
      refine take_ok rfl (by decide) fun u ds u0 u1 => ?_
      simp (maxSteps := 4000000) only [fit0, fit1, fit2, fit3, fit4, fit5, fit6, fit7, fit8, fit9, fit10, fit11, fit12, fit13, fit14, fit15, fit16, fit17, fit18, fit19, fit20, fit21, fit22, fit23, fit24, fit25, fit26, fit27, fit28, fit29, fit30, tame_int, tame_bl, tame_non, tame_tup2, tames_nil, tames_cons, w_seq, KS_nx, KS_rt, KS_bk, KS_ct, w_next, w_set, w_setM, w_drop, w_ret, w_retN, w_brk, w_cnt, w_if, w_asg, w_parB, w_parC, w_N, w_N0, w_N1, w_NT, KF_nx, KF_rt, w_fun, fin_d, fin_fr, w_fin, WE_some, WT_some, WA_some, WI_some, WS_some, WV_d, WV_fr, WV_loc, WVT_d, WVT_fr, WB_bl, WF_fr, WG_some, WO_some, WO_ite, WO_map, w_var, w_C, w_op, w_un, w_test, w_chain, w_and, w_or, w_not, w_VT, w_ifE, w_A0, w_A1, w_call, w_blt, w_curs0, w_curs1, w_vals0, w_vals1, w_tup, w_lst, w_yes, WL_loc, w_app, w_pop, w_rev, w_put, w_getI, w_isi, w_p0, w_p1, w_sl, w_lstR, w_tupR, w_newK, w_newT, KL_nx, KL_ct, KL_bk, KL_rt, wipeE, clr_nil, clr_cons, c1_none, c1_d, c1_loc, WC_z, WC_s, lt_a1, lt_a2, lt_a3, st_take2, put_lst, put_dK, kit_bb, kit_ib, kit_ii, kit_sb, kit_si, kit_ss, kit_tb, kit_ti, kit_ts, kit_tt, ty_int, ty_bl, ty_str, ty_tup, add_int, add_str, add_tup, add_lst, sub_int, mul_int', mul_lst, fdiv_int, mod_int, pow_int, neg_int, lt_int', le_int', gt_int', ge_int', is_non, isn_non, is_bl, isn_bl, isNon_int, isNon_str, isNon_tup, isNon_bl, isNon_non, len_str, len_tup, len_lst, len_frl, len_dK, int_int, int_bl, abs_int, sum_lst, any_lst, all_lst, max2_int, min2_int, tuple_lst, tuple_tup, list_lst, list_tup, ix_tup, ix_lst, ix_frl, ix_frt, sl_tup, sl_lst, tg_d, tg_fr, tg_loc, cellV_lst, cellV_dK, cellV_dT, eq_int, ne_int, eq_bl, ne_bl, in_ints_tup, in_ints_lst, atI_0, atI_1, atI_2, atI_3, st_len, st_at, st_at1, st_set, st_set1, st_take, st_take1, st_all, st_lt, List.map_cons, List.map_nil, List.length_cons, List.length_nil, List.length_map, List.getElem?_cons_zero, List.getElem?_cons_succ, List.set_cons_zero, List.set_cons_succ, List.cons_append, List.nil_append, List.append_nil, List.replicate_succ, List.replicate_zero, List.append_assoc, Nat.reduceAdd, Nat.reduceSub, Nat.reduceLT, Nat.zero_add, Nat.add_zero, true_implies, false_implies, and_true, true_and, implies_true, List.length_set, take_set, List.getElem?_set_self, Bool.not_true, decide_true, decide_false, Bool.not_false, decide_eq_true_eq, decide_eq_false_iff_not, Bool.true_eq_false, Bool.false_eq_true, Option.some.injEq, exists_eq_left, exists_eq_left', R.d.injEq, D.int.injEq, D.bl.injEq, if_true, if_false, reduceIte, not_true_eq_false, not_false_eq_true, List.take_zero, List.take_succ_cons, and_self, Option.map_some, Bool.false_xor, Bool.and_self, Bool.true_and, Bool.and_true, Bool.true_xor]
      refine take_ok rfl (by decide) fun z ds z0 z1 => ?_
      obtain ⟨y, hy, ey⟩ := two_of (a := turn.num * t) (b := u) z0 z1
      simp (maxSteps := 4000000) only [fit0, fit1, fit2, fit3, fit4, fit5, fit6, fit7, fit8, fit9, fit10, fit11, fit12, fit13, fit14, fit15, fit16, fit17, fit18, fit19, fit20, fit21, fit22, fit23, fit24, fit25, fit26, fit27, fit28, fit29, fit30, tame_int, tame_bl, tame_non, tame_tup2, tames_nil, tames_cons, w_seq, KS_nx, KS_rt, KS_bk, KS_ct, w_next, w_set, w_setM, w_drop, w_ret, w_retN, w_brk, w_cnt, w_if, w_asg, w_parB, w_parC, w_N, w_N0, w_N1, w_NT, KF_nx, KF_rt, w_fun, fin_d, fin_fr, w_fin, WE_some, WT_some, WA_some, WI_some, WS_some, WV_d, WV_fr, WV_loc, WVT_d, WVT_fr, WB_bl, WF_fr, WG_some, WO_some, WO_ite, WO_map, w_var, w_C, w_op, w_un, w_test, w_chain, w_and, w_or, w_not, w_VT, w_ifE, w_A0, w_A1, w_call, w_blt, w_curs0, w_curs1, w_vals0, w_vals1, w_tup, w_lst, w_yes, WL_loc, w_app, w_pop, w_rev, w_put, w_getI, w_isi, w_p0, w_p1, w_sl, w_lstR, w_tupR, w_newK, w_newT, KL_nx, KL_ct, KL_bk, KL_rt, wipeE, clr_nil, clr_cons, c1_none, c1_d, c1_loc, WC_z, WC_s, lt_a1, lt_a2, lt_a3, st_take2, put_lst, put_dK, kit_bb, kit_ib, kit_ii, kit_sb, kit_si, kit_ss, kit_tb, kit_ti, kit_ts, kit_tt, ty_int, ty_bl, ty_str, ty_tup, add_int, add_str, add_tup, add_lst, sub_int, mul_int', mul_lst, fdiv_int, mod_int, pow_int, neg_int, lt_int', le_int', gt_int', ge_int', is_non, isn_non, is_bl, isn_bl, isNon_int, isNon_str, isNon_tup, isNon_bl, isNon_non, len_str, len_tup, len_lst, len_frl, len_dK, int_int, int_bl, abs_int, sum_lst, any_lst, all_lst, max2_int, min2_int, tuple_lst, tuple_tup, list_lst, list_tup, ix_tup, ix_lst, ix_frl, ix_frt, sl_tup, sl_lst, tg_d, tg_fr, tg_loc, cellV_lst, cellV_dK, cellV_dT, eq_int, ne_int, eq_bl, ne_bl, in_ints_tup, in_ints_lst, atI_0, atI_1, atI_2, atI_3, st_len, st_at, st_at1, st_set, st_set1, st_take, st_take1, st_all, st_lt, List.map_cons, List.map_nil, List.length_cons, List.length_nil, List.length_map, List.getElem?_cons_zero, List.getElem?_cons_succ, List.set_cons_zero, List.set_cons_succ, List.cons_append, List.nil_append, List.append_nil, List.replicate_succ, List.replicate_zero, List.append_assoc, Nat.reduceAdd, Nat.reduceSub, Nat.reduceLT, Nat.zero_add, Nat.add_zero, true_implies, false_implies, and_true, true_and, implies_true, List.length_set, take_set, List.getElem?_set_self, Bool.not_true, decide_true, decide_false, Bool.not_false, decide_eq_true_eq, decide_eq_false_iff_not, Bool.true_eq_false, Bool.false_eq_true, Option.some.injEq, exists_eq_left, exists_eq_left', R.d.injEq, D.int.injEq, D.bl.injEq, if_true, if_false, reduceIte, not_true_eq_false, not_false_eq_true, List.take_zero, List.take_succ_cons, and_self, Option.map_some, Bool.false_xor, Bool.and_self, Bool.true_and, Bool.and_true, Bool.true_xor, ey]
      have hy2 : y.natAbs < 10000 := by
        have := m.t.1
        rcases hy with rfl | rfl
        · rcases (show t = 0 ∨ t = 1 ∨ t = 2 by omega) with rfl | rfl | rfl <;> omega
        · omega
      obtain ⟨q, hq⟩ : ∃ q, o + y = q := ⟨_, rfl⟩
      have ho3 : o.natAbs < 2 ^ 300 := by omega
      have hq3 : q.natAbs < 2 ^ 300 := by omega
      have s1 : Sz 300 ((q - o : Int) : Rat) := sz_int (by omega) (by decide)
      have hden : decide (((((q - o : Int) : Rat) / turn).den : Int) = 1) = decide (mAge new turn o = mAge new turn q) := decide_eq_decide.mpr (by rw [age_same m.mo.pos]; omega)
      simp (maxSteps := 4000000) only [fit0, fit1, fit2, fit3, fit4, fit5, fit6, fit7, fit8, fit9, fit10, fit11, fit12, fit13, fit14, fit15, fit16, fit17, fit18, fit19, fit20, fit21, fit22, fit23, fit24, fit25, fit26, fit27, fit28, fit29, fit30, tame_int, tame_bl, tame_non, tame_tup2, tames_nil, tames_cons, w_seq, KS_nx, KS_rt, KS_bk, KS_ct, w_next, w_set, w_setM, w_drop, w_ret, w_retN, w_brk, w_cnt, w_if, w_asg, w_parB, w_parC, w_N, w_N0, w_N1, w_NT, KF_nx, KF_rt, w_fun, fin_d, fin_fr, w_fin, WE_some, WT_some, WA_some, WI_some, WS_some, WV_d, WV_fr, WV_loc, WVT_d, WVT_fr, WB_bl, WF_fr, WG_some, WO_some, WO_ite, WO_map, w_var, w_C, w_op, w_un, w_test, w_chain, w_and, w_or, w_not, w_VT, w_ifE, w_A0, w_A1, w_call, w_blt, w_curs0, w_curs1, w_vals0, w_vals1, w_tup, w_lst, w_yes, WL_loc, w_app, w_pop, w_rev, w_put, w_getI, w_isi, w_p0, w_p1, w_sl, w_lstR, w_tupR, w_newK, w_newT, KL_nx, KL_ct, KL_bk, KL_rt, wipeE, clr_nil, clr_cons, c1_none, c1_d, c1_loc, WC_z, WC_s, lt_a1, lt_a2, lt_a3, st_take2, put_lst, put_dK, kit_bb, kit_ib, kit_ii, kit_sb, kit_si, kit_ss, kit_tb, kit_ti, kit_ts, kit_tt, ty_int, ty_bl, ty_str, ty_tup, add_int, add_str, add_tup, add_lst, sub_int, mul_int', mul_lst, fdiv_int, mod_int, pow_int, neg_int, lt_int', le_int', gt_int', ge_int', is_non, isn_non, is_bl, isn_bl, isNon_int, isNon_str, isNon_tup, isNon_bl, isNon_non, len_str, len_tup, len_lst, len_frl, len_dK, int_int, int_bl, abs_int, sum_lst, any_lst, all_lst, max2_int, min2_int, tuple_lst, tuple_tup, list_lst, list_tup, ix_tup, ix_lst, ix_frl, ix_frt, sl_tup, sl_lst, tg_d, tg_fr, tg_loc, cellV_lst, cellV_dK, cellV_dT, eq_int, ne_int, eq_bl, ne_bl, in_ints_tup, in_ints_lst, atI_0, atI_1, atI_2, atI_3, st_len, st_at, st_at1, st_set, st_set1, st_take, st_take1, st_all, st_lt, List.map_cons, List.map_nil, List.length_cons, List.length_nil, List.length_map, List.getElem?_cons_zero, List.getElem?_cons_succ, List.set_cons_zero, List.set_cons_succ, List.cons_append, List.nil_append, List.append_nil, List.replicate_succ, List.replicate_zero, List.append_assoc, Nat.reduceAdd, Nat.reduceSub, Nat.reduceLT, Nat.zero_add, Nat.add_zero, true_implies, false_implies, and_true, true_and, implies_true, List.length_set, take_set, List.getElem?_set_self, Bool.not_true, decide_true, decide_false, Bool.not_false, decide_eq_true_eq, decide_eq_false_iff_not, Bool.true_eq_false, Bool.false_eq_true, Option.some.injEq, exists_eq_left, exists_eq_left', R.d.injEq, D.int.injEq, D.bl.injEq, if_true, if_false, reduceIte, not_true_eq_false, not_false_eq_true, List.take_zero, List.take_succ_cons, and_self, Option.map_some, Bool.false_xor, Bool.and_self, Bool.true_and, Bool.and_true, Bool.true_xor, hq, lwhole_eq, lover_eq (sz_big s1) (sz_big m.mo.t) m.mo.pos, ix_Q1, same_age_eq m.mo ho3 hq3, same_age_eq m.mo ho3 ho3, hden, sb]
      exact ⟨⟨_, _, _, _, _, _, _, rfl⟩, ds, rfl⟩
    · rintro env s ⟨⟨x2, x5, x6, x7, x8, x9, x10, rfl⟩, ds, rfl⟩
      simp (maxSteps := 4000000) only [fit0, fit1, fit2, fit3, fit4, fit5, fit6, fit7, fit8, fit9, fit10, fit11, fit12, fit13, fit14, fit15, fit16, fit17, fit18, fit19, fit20, fit21, fit22, fit23, fit24, fit25, fit26, fit27, fit28, fit29, fit30, tame_int, tame_bl, tame_non, tame_tup2, tames_nil, tames_cons, w_seq, KS_nx, KS_rt, KS_bk, KS_ct, w_next, w_set, w_setM, w_drop, w_ret, w_retN, w_brk, w_cnt, w_if, w_asg, w_parB, w_parC, w_N, w_N0, w_N1, w_NT, KF_nx, KF_rt, w_fun, fin_d, fin_fr, w_fin, WE_some, WT_some, WA_some, WI_some, WS_some, WV_d, WV_fr, WV_loc, WVT_d, WVT_fr, WB_bl, WF_fr, WG_some, WO_some, WO_ite, WO_map, w_var, w_C, w_op, w_un, w_test, w_chain, w_and, w_or, w_not, w_VT, w_ifE, w_A0, w_A1, w_call, w_blt, w_curs0, w_curs1, w_vals0, w_vals1, w_tup, w_lst, w_yes, WL_loc, w_app, w_pop, w_rev, w_put, w_getI, w_isi, w_p0, w_p1, w_sl, w_lstR, w_tupR, w_newK, w_newT, KL_nx, KL_ct, KL_bk, KL_rt, wipeE, clr_nil, clr_cons, c1_none, c1_d, c1_loc, WC_z, WC_s, lt_a1, lt_a2, lt_a3, st_take2, put_lst, put_dK, kit_bb, kit_ib, kit_ii, kit_sb, kit_si, kit_ss, kit_tb, kit_ti, kit_ts, kit_tt, ty_int, ty_bl, ty_str, ty_tup, add_int, add_str, add_tup, add_lst, sub_int, mul_int', mul_lst, fdiv_int, mod_int, pow_int, neg_int, lt_int', le_int', gt_int', ge_int', is_non, isn_non, is_bl, isn_bl, isNon_int, isNon_str, isNon_tup, isNon_bl, isNon_non, len_str, len_tup, len_lst, len_frl, len_dK, int_int, int_bl, abs_int, sum_lst, any_lst, all_lst, max2_int, min2_int, tuple_lst, tuple_tup, list_lst, list_tup, ix_tup, ix_lst, ix_frl, ix_frt, sl_tup, sl_lst, tg_d, tg_fr, tg_loc, cellV_lst, cellV_dK, cellV_dT, eq_int, ne_int, eq_bl, ne_bl, in_ints_tup, in_ints_lst, atI_0, atI_1, atI_2, atI_3, st_len, st_at, st_at1, st_set, st_set1, st_take, st_take1, st_all, st_lt, List.map_cons, List.map_nil, List.length_cons, List.length_nil, List.length_map, List.getElem?_cons_zero, List.getElem?_cons_succ, List.set_cons_zero, List.set_cons_succ, List.cons_append, List.nil_append, List.append_nil, List.replicate_succ, List.replicate_zero, List.append_assoc, Nat.reduceAdd, Nat.reduceSub, Nat.reduceLT, Nat.zero_add, Nat.add_zero, true_implies, false_implies, and_true, true_and, implies_true, List.length_set, take_set, List.getElem?_set_self, Bool.not_true, decide_true, decide_false, Bool.not_false, decide_eq_true_eq, decide_eq_false_iff_not, Bool.true_eq_false, Bool.false_eq_true, Option.some.injEq, exists_eq_left, exists_eq_left', R.d.injEq, D.int.injEq, D.bl.injEq, if_true, if_false, reduceIte, not_true_eq_false, not_false_eq_true, List.take_zero, List.take_succ_cons, and_self, Option.map_some, Bool.false_xor, Bool.and_self, Bool.true_and, Bool.and_true, Bool.true_xor]
      exact ⟨⟨_, _, _, _, _, _, _, _, _, rfl⟩, ds, rfl⟩
  · rintro e s ⟨⟨x2, x3, x4, x5, x6, x7, x8, x9, x10, rfl⟩, ds, rfl⟩
    simp (maxSteps := 4000000) only [fit0, fit1, fit2, fit3, fit4, fit5, fit6, fit7, fit8, fit9, fit10, fit11, fit12, fit13, fit14, fit15, fit16, fit17, fit18, fit19, fit20, fit21, fit22, fit23, fit24, fit25, fit26, fit27, fit28, fit29, fit30, tame_int, tame_bl, tame_non, tame_tup2, tames_nil, tames_cons, w_seq, KS_nx, KS_rt, KS_bk, KS_ct, w_next, w_set, w_setM, w_drop, w_ret, w_retN, w_brk, w_cnt, w_if, w_asg, w_parB, w_parC, w_N, w_N0, w_N1, w_NT, KF_nx, KF_rt, w_fun, fin_d, fin_fr, w_fin, WE_some, WT_some, WA_some, WI_some, WS_some, WV_d, WV_fr, WV_loc, WVT_d, WVT_fr, WB_bl, WF_fr, WG_some, WO_some, WO_ite, WO_map, w_var, w_C, w_op, w_un, w_test, w_chain, w_and, w_or, w_not, w_VT, w_ifE, w_A0, w_A1, w_call, w_blt, w_curs0, w_curs1, w_vals0, w_vals1, w_tup, w_lst, w_yes, WL_loc, w_app, w_pop, w_rev, w_put, w_getI, w_isi, w_p0, w_p1, w_sl, w_lstR, w_tupR, w_newK, w_newT, KL_nx, KL_ct, KL_bk, KL_rt, wipeE, clr_nil, clr_cons, c1_none, c1_d, c1_loc, WC_z, WC_s, lt_a1, lt_a2, lt_a3, st_take2, put_lst, put_dK, kit_bb, kit_ib, kit_ii, kit_sb, kit_si, kit_ss, kit_tb, kit_ti, kit_ts, kit_tt, ty_int, ty_bl, ty_str, ty_tup, add_int, add_str, add_tup, add_lst, sub_int, mul_int', mul_lst, fdiv_int, mod_int, pow_int, neg_int, lt_int', le_int', gt_int', ge_int', is_non, isn_non, is_bl, isn_bl, isNon_int, isNon_str, isNon_tup, isNon_bl, isNon_non, len_str, len_tup, len_lst, len_frl, len_dK, int_int, int_bl, abs_int, sum_lst, any_lst, all_lst, max2_int, min2_int, tuple_lst, tuple_tup, list_lst, list_tup, ix_tup, ix_lst, ix_frl, ix_frt, sl_tup, sl_lst, tg_d, tg_fr, tg_loc, cellV_lst, cellV_dK, cellV_dT, eq_int, ne_int, eq_bl, ne_bl, in_ints_tup, in_ints_lst, atI_0, atI_1, atI_2, atI_3, st_len, st_at, st_at1, st_set, st_set1, st_take, st_take1, st_all, st_lt, List.map_cons, List.map_nil, List.length_cons, List.length_nil, List.length_map, List.getElem?_cons_zero, List.getElem?_cons_succ, List.set_cons_zero, List.set_cons_succ, List.cons_append, List.nil_append, List.append_nil, List.replicate_succ, List.replicate_zero, List.append_assoc, Nat.reduceAdd, Nat.reduceSub, Nat.reduceLT, Nat.zero_add, Nat.add_zero, true_implies, false_implies, and_true, true_and, implies_true, List.length_set, take_set, List.getElem?_set_self, Bool.not_true, decide_true, decide_false, Bool.not_false, decide_eq_true_eq, decide_eq_false_iff_not, Bool.true_eq_false, Bool.false_eq_true, Option.some.injEq, exists_eq_left, exists_eq_left', R.d.injEq, D.int.injEq, D.bl.injEq, if_true, if_false, reduceIte, not_true_eq_false, not_false_eq_true, List.take_zero, List.take_succ_cons, and_self, Option.map_some, Bool.false_xor, Bool.and_self, Bool.true_and, Bool.and_true, Bool.true_xor, half_Q, four_Q, zero_Q, q72_Q, q53_Q, eight_Q, g1, g2, g3, g4, g5, s8, si, sb, sq]
theorem fin_law {ns : List Int} (hl : ns.length ≤ 63) : ∃ st, F_law [.d (.frl (ns.map D.int))] [] = some (.d (.bl true), st) := by
  obtain ⟨r, s, e, rfl⟩ := law_ok hl
  exact ⟨s, e⟩
end K92

set_option Elab.async false
set_option linter.all false
set_option maxRecDepth 100000
set_option maxHeartbeats 0
open PySem PySem.Spec PyProof.Rows L2 DL
namespace K92
/-! ### the head -/
def df_divisor_of : He.DefD := ⟨("divisor_of", none), "divisor_of", "divisor_of", defArgs s_divisor_of, defBody s_divisor_of, defScope s_divisor_of, [], []⟩
def df_fraction : He.DefD := ⟨("fraction", none), "fraction", "fraction", defArgs s_fraction, defBody s_fraction, defScope s_fraction, [], []⟩
def df_plus_of : He.DefD := ⟨("plus_of", none), "plus_of", "plus_of", defArgs s_plus_of, defBody s_plus_of, defScope s_plus_of, [], []⟩
def df_minus_of : He.DefD := ⟨("minus_of", none), "minus_of", "minus_of", defArgs s_minus_of, defBody s_minus_of, defScope s_minus_of, [], []⟩
def df_times_of : He.DefD := ⟨("times_of", none), "times_of", "times_of", defArgs s_times_of, defBody s_times_of, defScope s_times_of, [], []⟩
def df_divided_by : He.DefD := ⟨("divided_by", none), "divided_by", "divided_by", defArgs s_divided_by, defBody s_divided_by, defScope s_divided_by, [], []⟩
def df_floor_of : He.DefD := ⟨("floor_of", none), "floor_of", "floor_of", defArgs s_floor_of, defBody s_floor_of, defScope s_floor_of, [], []⟩
def df_rounds_by : He.DefD := ⟨("rounds_by", none), "rounds_by", "rounds_by", defArgs s_rounds_by, defBody s_rounds_by, defScope s_rounds_by, [], []⟩
def df_new_of : He.DefD := ⟨("new_of", none), "new_of", "new_of", defArgs s_new_of, defBody s_new_of, defScope s_new_of, [], []⟩
def df_age_at : He.DefD := ⟨("age_at", none), "age_at", "age_at", defArgs s_age_at, defBody s_age_at, defScope s_age_at, [], []⟩
def df_quarter_at : He.DefD := ⟨("quarter_at", none), "quarter_at", "quarter_at", defArgs s_quarter_at, defBody s_quarter_at, defScope s_quarter_at, [], []⟩
def df_next_number : He.DefD := ⟨("next_number", none), "next_number", "next_number", defArgs s_next_number, defBody s_next_number, defScope s_next_number, [], []⟩
def df_next_new : He.DefD := ⟨("next_new", none), "next_new", "next_new", defArgs s_next_new, defBody s_next_new, defScope s_next_new, [], []⟩
def df_nearest_day : He.DefD := ⟨("nearest_day", none), "nearest_day", "nearest_day", defArgs s_nearest_day, defBody s_nearest_day, defScope s_nearest_day, [], []⟩
def df_spring_after : He.DefD := ⟨("spring_after", none), "spring_after", "spring_after", defArgs s_spring_after, defBody s_spring_after, defScope s_spring_after, [], []⟩
def df_spring_days : He.DefD := ⟨("spring_days", none), "spring_days", "spring_days", defArgs s_spring_days, defBody s_spring_days, defScope s_spring_days, [], []⟩
def df_is_spring : He.DefD := ⟨("is_spring", none), "is_spring", "is_spring", defArgs s_is_spring, defBody s_is_spring, defScope s_is_spring, [], []⟩
def df_same_age : He.DefD := ⟨("same_age", none), "same_age", "same_age", defArgs s_same_age, defBody s_same_age, defScope s_same_age, [], []⟩
def df_moons_between : He.DefD := ⟨("moons_between", none), "moons_between", "moons_between", defArgs s_moons_between, defBody s_moons_between, defScope s_moons_between, [], []⟩
def df__law_draws : He.DefD := ⟨("_law_draws", none), "_law_draws", "_law_draws", defArgs s__law_draws, defBody s__law_draws, defScope s__law_draws, [], []⟩
def df__law_take : He.DefD := ⟨("_law_take", none), "_law_take", "_law_take", defArgs s__law_take, defBody s__law_take, defScope s__law_take, [], []⟩
def df__law_cell : He.DefD := ⟨("_law_cell", none), "_law_cell", "_law_cell", defArgs s__law_cell, defBody s__law_cell, defScope s__law_cell, [], []⟩
def df__law_same : He.DefD := ⟨("_law_same", none), "_law_same", "_law_same", defArgs s__law_same, defBody s__law_same, defScope s__law_same, [], []⟩
def df__law_divisor : He.DefD := ⟨("_law_divisor", none), "_law_divisor", "_law_divisor", defArgs s__law_divisor, defBody s__law_divisor, defScope s__law_divisor, [], []⟩
def df__law_fraction : He.DefD := ⟨("_law_fraction", none), "_law_fraction", "_law_fraction", defArgs s__law_fraction, defBody s__law_fraction, defScope s__law_fraction, [], []⟩
def df__law_plus : He.DefD := ⟨("_law_plus", none), "_law_plus", "_law_plus", defArgs s__law_plus, defBody s__law_plus, defScope s__law_plus, [], []⟩
def df__law_times : He.DefD := ⟨("_law_times", none), "_law_times", "_law_times", defArgs s__law_times, defBody s__law_times, defScope s__law_times, [], []⟩
def df__law_over : He.DefD := ⟨("_law_over", none), "_law_over", "_law_over", defArgs s__law_over, defBody s__law_over, defScope s__law_over, [], []⟩
def df__law_less : He.DefD := ⟨("_law_less", none), "_law_less", "_law_less", defArgs s__law_less, defBody s__law_less, defScope s__law_less, [], []⟩
def df__law_minus : He.DefD := ⟨("_law_minus", none), "_law_minus", "_law_minus", defArgs s__law_minus, defBody s__law_minus, defScope s__law_minus, [], []⟩
def df__law_whole : He.DefD := ⟨("_law_whole", none), "_law_whole", "_law_whole", defArgs s__law_whole, defBody s__law_whole, defScope s__law_whole, [], []⟩
def df__law_moon : He.DefD := ⟨("_law_moon", none), "_law_moon", "_law_moon", defArgs s__law_moon, defBody s__law_moon, defScope s__law_moon, [], []⟩
def df__law_floor : He.DefD := ⟨("_law_floor", none), "_law_floor", "_law_floor", defArgs s__law_floor, defBody s__law_floor, defScope s__law_floor, [], []⟩
def df__law_new : He.DefD := ⟨("_law_new", none), "_law_new", "_law_new", defArgs s__law_new, defBody s__law_new, defScope s__law_new, [], []⟩
def df__law_is_going_on : He.DefD := ⟨("_law_is_going_on", none), "_law_is_going_on", "_law_is_going_on", defArgs s__law_is_going_on, defBody s__law_is_going_on, defScope s__law_is_going_on, [], []⟩
def df__law_are_moons_right : He.DefD := ⟨("_law_are_moons_right", none), "_law_are_moons_right", "_law_are_moons_right", defArgs s__law_are_moons_right, defBody s__law_are_moons_right, defScope s__law_are_moons_right, [], []⟩
def df__law_are_changes_right : He.DefD := ⟨("_law_are_changes_right", none), "_law_are_changes_right", "_law_are_changes_right", defArgs s__law_are_changes_right, defBody s__law_are_changes_right, defScope s__law_are_changes_right, [], []⟩
def df_law : He.DefD := ⟨("law", none), "law", "law", defArgs s_law, defBody s_law, defScope s_law, [], []⟩
def fnl : List He.DefD := [df_divisor_of, df_fraction, df_plus_of, df_minus_of, df_times_of, df_divided_by, df_floor_of, df_rounds_by, df_new_of, df_age_at, df_quarter_at, df_next_number, df_next_new, df_nearest_day, df_spring_after, df_spring_days, df_is_spring, df_same_age, df_moons_between, df__law_draws, df__law_take, df__law_cell, df__law_same, df__law_divisor, df__law_fraction, df__law_plus, df__law_times, df__law_over, df__law_less, df__law_minus, df__law_whole, df__law_moon, df__law_floor, df__law_new, df__law_is_going_on, df__law_are_moons_right, df__law_are_changes_right, df_law]
def fal : List He.Fa := [.glo "divisor_of", .glo "fraction", .glo "plus_of", .glo "minus_of", .glo "times_of", .glo "divided_by", .glo "floor_of", .glo "rounds_by", .glo "new_of", .glo "age_at", .glo "quarter_at", .glo "next_number", .glo "next_new", .glo "nearest_day", .glo "spring_after", .glo "spring_days", .glo "is_spring", .glo "same_age", .glo "moons_between", .glo "_law_draws", .glo "_law_take", .glo "_law_cell", .glo "_law_same", .glo "_law_divisor", .glo "_law_fraction", .glo "_law_plus", .glo "_law_times", .glo "_law_over", .glo "_law_less", .glo "_law_minus", .glo "_law_whole", .glo "_law_moon", .glo "_law_floor", .glo "_law_new", .glo "_law_is_going_on", .glo "_law_are_moons_right", .glo "_law_are_changes_right", .glo "law", .free "abs", .free "bool", .free "int", .free "isinstance", .free "len", .free "list", .free "max", .free "min", .free "range", .free "sorted", .free "str", .free "tuple", .glo "HALF"]
def loose : List PySem.Str := (["divisor_of", "fraction", "plus_of", "minus_of", "times_of", "divided_by", "floor_of", "rounds_by", "new_of", "age_at", "quarter_at", "next_number", "next_new", "nearest_day", "spring_after", "spring_days", "is_spring", "same_age", "moons_between", "_law_draws"] : List PySem.Str) ++ (["_law_take", "_law_cell", "_law_same", "_law_divisor", "_law_fraction", "_law_plus", "_law_times", "_law_over", "_law_less", "_law_minus", "_law_whole", "_law_moon", "_law_floor", "_law_new", "_law_is_going_on", "_law_are_moons_right", "_law_are_changes_right", "HALF"] : List PySem.Str)
def tbl : DL.Tb := [("HALF", [.int 1, .int 2])]
abbrev RO : PySem.W.OpenRow := PySem.W.OpenLaw.row PySem.Challenge.rw_boatsout_k92_whole_moons_that_come_again
abbrev hkl : PySem.W.Hook := DL.hookT 4 fal fnl tbl
def obl (s : PySem.W.SharedT) : He.AlD := DL.obsTG 4 fal fnl tbl (HandSHeadRun.getT s)
theorem obl_eq (s : PySem.W.SharedT) : obl s = hkl.obs s.abs := DL.obsTG_eq (HandSHeadRun.getT_eq s)
theorem runs (w : World) : HandSHeadRun.RunEq RO (PySem.W.view RO.prog [41]) hkl obl 1500 loose w := by
  intro os
  kernel_rfl
theorem facts {P : Program} {w : World} {K : PySem.W.Frag} {h : Heap} {mg : Str → Option Value} {f : Addr} (X : K.In h) (G : h.Ns mainGlobals mg) (hfa : mg ("law" : Str) = some (.ref f)) (ct : DL.SaysT fal fnl tbl K) :
    ∃ fd : FuncData, (∀ (s : Shared) (v : Value), BindsTo s fd ⟨[v], []⟩ [("script", v)]) ∧ ∀ base : Heap, K.In base → base.Ns mainGlobals mg → FnOk P w K mg base CX0 14 f fd ["script"] (spOf K 1 F_law) := by
  have c := ct.says.1
  obtain ⟨d_divisor_of, D_divisor_of⟩ := c.def_ 0 (d := df_divisor_of) rfl
  obtain ⟨d_fraction, D_fraction⟩ := c.def_ 1 (d := df_fraction) rfl
  obtain ⟨d_plus_of, D_plus_of⟩ := c.def_ 2 (d := df_plus_of) rfl
  obtain ⟨d_minus_of, D_minus_of⟩ := c.def_ 3 (d := df_minus_of) rfl
  obtain ⟨d_times_of, D_times_of⟩ := c.def_ 4 (d := df_times_of) rfl
  obtain ⟨d_divided_by, D_divided_by⟩ := c.def_ 5 (d := df_divided_by) rfl
  obtain ⟨d_floor_of, D_floor_of⟩ := c.def_ 6 (d := df_floor_of) rfl
  obtain ⟨d_rounds_by, D_rounds_by⟩ := c.def_ 7 (d := df_rounds_by) rfl
  obtain ⟨d_new_of, D_new_of⟩ := c.def_ 8 (d := df_new_of) rfl
  obtain ⟨d_age_at, D_age_at⟩ := c.def_ 9 (d := df_age_at) rfl
  obtain ⟨d_quarter_at, D_quarter_at⟩ := c.def_ 10 (d := df_quarter_at) rfl
  obtain ⟨d_next_number, D_next_number⟩ := c.def_ 11 (d := df_next_number) rfl
  obtain ⟨d_next_new, D_next_new⟩ := c.def_ 12 (d := df_next_new) rfl
  obtain ⟨d_nearest_day, D_nearest_day⟩ := c.def_ 13 (d := df_nearest_day) rfl
  obtain ⟨d_spring_after, D_spring_after⟩ := c.def_ 14 (d := df_spring_after) rfl
  obtain ⟨d_spring_days, D_spring_days⟩ := c.def_ 15 (d := df_spring_days) rfl
  obtain ⟨d_is_spring, D_is_spring⟩ := c.def_ 16 (d := df_is_spring) rfl
  obtain ⟨d_same_age, D_same_age⟩ := c.def_ 17 (d := df_same_age) rfl
  obtain ⟨d_moons_between, D_moons_between⟩ := c.def_ 18 (d := df_moons_between) rfl
  obtain ⟨d__law_draws, D__law_draws⟩ := c.def_ 19 (d := df__law_draws) rfl
  obtain ⟨d__law_take, D__law_take⟩ := c.def_ 20 (d := df__law_take) rfl
  obtain ⟨d__law_cell, D__law_cell⟩ := c.def_ 21 (d := df__law_cell) rfl
  obtain ⟨d__law_same, D__law_same⟩ := c.def_ 22 (d := df__law_same) rfl
  obtain ⟨d__law_divisor, D__law_divisor⟩ := c.def_ 23 (d := df__law_divisor) rfl
  obtain ⟨d__law_fraction, D__law_fraction⟩ := c.def_ 24 (d := df__law_fraction) rfl
  obtain ⟨d__law_plus, D__law_plus⟩ := c.def_ 25 (d := df__law_plus) rfl
  obtain ⟨d__law_times, D__law_times⟩ := c.def_ 26 (d := df__law_times) rfl
  obtain ⟨d__law_over, D__law_over⟩ := c.def_ 27 (d := df__law_over) rfl
  obtain ⟨d__law_less, D__law_less⟩ := c.def_ 28 (d := df__law_less) rfl
  obtain ⟨d__law_minus, D__law_minus⟩ := c.def_ 29 (d := df__law_minus) rfl
  obtain ⟨d__law_whole, D__law_whole⟩ := c.def_ 30 (d := df__law_whole) rfl
  obtain ⟨d__law_moon, D__law_moon⟩ := c.def_ 31 (d := df__law_moon) rfl
  obtain ⟨d__law_floor, D__law_floor⟩ := c.def_ 32 (d := df__law_floor) rfl
  obtain ⟨d__law_new, D__law_new⟩ := c.def_ 33 (d := df__law_new) rfl
  obtain ⟨d__law_is_going_on, D__law_is_going_on⟩ := c.def_ 34 (d := df__law_is_going_on) rfl
  obtain ⟨d__law_are_moons_right, D__law_are_moons_right⟩ := c.def_ 35 (d := df__law_are_moons_right) rfl
  obtain ⟨d__law_are_changes_right, D__law_are_changes_right⟩ := c.def_ 36 (d := df__law_are_changes_right) rfl
  obtain ⟨d_law, D_law⟩ := c.def_ 37 (d := df_law) rfl
  have e := hfa.symm.trans (He.glo_ok X G (c.fact 37 (f := .glo "law") rfl))
  cases e
  have b := FunD.bindsA (ps := ["script"]) D_law fun _ _ _ _ _ _ us hl => match us, hl with | [_], _ => rfl
  let T : Fx K mg := {
    a_divisor_of := _
    d_divisor_of := d_divisor_of
    D_divisor_of := D_divisor_of
    m_divisor_of := He.glo_ok X G (c.fact 0 (f := .glo "divisor_of") rfl)
    a_fraction := _
    d_fraction := d_fraction
    D_fraction := D_fraction
    m_fraction := He.glo_ok X G (c.fact 1 (f := .glo "fraction") rfl)
    a_plus_of := _
    d_plus_of := d_plus_of
    D_plus_of := D_plus_of
    m_plus_of := He.glo_ok X G (c.fact 2 (f := .glo "plus_of") rfl)
    a_minus_of := _
    d_minus_of := d_minus_of
    D_minus_of := D_minus_of
    m_minus_of := He.glo_ok X G (c.fact 3 (f := .glo "minus_of") rfl)
    a_times_of := _
    d_times_of := d_times_of
    D_times_of := D_times_of
    m_times_of := He.glo_ok X G (c.fact 4 (f := .glo "times_of") rfl)
    a_divided_by := _
    d_divided_by := d_divided_by
    D_divided_by := D_divided_by
    m_divided_by := He.glo_ok X G (c.fact 5 (f := .glo "divided_by") rfl)
    a_floor_of := _
    d_floor_of := d_floor_of
    D_floor_of := D_floor_of
    m_floor_of := He.glo_ok X G (c.fact 6 (f := .glo "floor_of") rfl)
    a_rounds_by := _
    d_rounds_by := d_rounds_by
    D_rounds_by := D_rounds_by
    m_rounds_by := He.glo_ok X G (c.fact 7 (f := .glo "rounds_by") rfl)
    a_new_of := _
    d_new_of := d_new_of
    D_new_of := D_new_of
    m_new_of := He.glo_ok X G (c.fact 8 (f := .glo "new_of") rfl)
    a_age_at := _
    d_age_at := d_age_at
    D_age_at := D_age_at
    m_age_at := He.glo_ok X G (c.fact 9 (f := .glo "age_at") rfl)
    a_quarter_at := _
    d_quarter_at := d_quarter_at
    D_quarter_at := D_quarter_at
    m_quarter_at := He.glo_ok X G (c.fact 10 (f := .glo "quarter_at") rfl)
    a_next_number := _
    d_next_number := d_next_number
    D_next_number := D_next_number
    m_next_number := He.glo_ok X G (c.fact 11 (f := .glo "next_number") rfl)
    a_next_new := _
    d_next_new := d_next_new
    D_next_new := D_next_new
    m_next_new := He.glo_ok X G (c.fact 12 (f := .glo "next_new") rfl)
    a_nearest_day := _
    d_nearest_day := d_nearest_day
    D_nearest_day := D_nearest_day
    m_nearest_day := He.glo_ok X G (c.fact 13 (f := .glo "nearest_day") rfl)
    a_spring_after := _
    d_spring_after := d_spring_after
    D_spring_after := D_spring_after
    m_spring_after := He.glo_ok X G (c.fact 14 (f := .glo "spring_after") rfl)
    a_spring_days := _
    d_spring_days := d_spring_days
    D_spring_days := D_spring_days
    m_spring_days := He.glo_ok X G (c.fact 15 (f := .glo "spring_days") rfl)
    a_is_spring := _
    d_is_spring := d_is_spring
    D_is_spring := D_is_spring
    m_is_spring := He.glo_ok X G (c.fact 16 (f := .glo "is_spring") rfl)
    a_same_age := _
    d_same_age := d_same_age
    D_same_age := D_same_age
    m_same_age := He.glo_ok X G (c.fact 17 (f := .glo "same_age") rfl)
    a_moons_between := _
    d_moons_between := d_moons_between
    D_moons_between := D_moons_between
    m_moons_between := He.glo_ok X G (c.fact 18 (f := .glo "moons_between") rfl)
    a__law_draws := _
    d__law_draws := d__law_draws
    D__law_draws := D__law_draws
    m__law_draws := He.glo_ok X G (c.fact 19 (f := .glo "_law_draws") rfl)
    a__law_take := _
    d__law_take := d__law_take
    D__law_take := D__law_take
    m__law_take := He.glo_ok X G (c.fact 20 (f := .glo "_law_take") rfl)
    a__law_cell := _
    d__law_cell := d__law_cell
    D__law_cell := D__law_cell
    m__law_cell := He.glo_ok X G (c.fact 21 (f := .glo "_law_cell") rfl)
    a__law_same := _
    d__law_same := d__law_same
    D__law_same := D__law_same
    m__law_same := He.glo_ok X G (c.fact 22 (f := .glo "_law_same") rfl)
    a__law_divisor := _
    d__law_divisor := d__law_divisor
    D__law_divisor := D__law_divisor
    m__law_divisor := He.glo_ok X G (c.fact 23 (f := .glo "_law_divisor") rfl)
    a__law_fraction := _
    d__law_fraction := d__law_fraction
    D__law_fraction := D__law_fraction
    m__law_fraction := He.glo_ok X G (c.fact 24 (f := .glo "_law_fraction") rfl)
    a__law_plus := _
    d__law_plus := d__law_plus
    D__law_plus := D__law_plus
    m__law_plus := He.glo_ok X G (c.fact 25 (f := .glo "_law_plus") rfl)
    a__law_times := _
    d__law_times := d__law_times
    D__law_times := D__law_times
    m__law_times := He.glo_ok X G (c.fact 26 (f := .glo "_law_times") rfl)
    a__law_over := _
    d__law_over := d__law_over
    D__law_over := D__law_over
    m__law_over := He.glo_ok X G (c.fact 27 (f := .glo "_law_over") rfl)
    a__law_less := _
    d__law_less := d__law_less
    D__law_less := D__law_less
    m__law_less := He.glo_ok X G (c.fact 28 (f := .glo "_law_less") rfl)
    a__law_minus := _
    d__law_minus := d__law_minus
    D__law_minus := D__law_minus
    m__law_minus := He.glo_ok X G (c.fact 29 (f := .glo "_law_minus") rfl)
    a__law_whole := _
    d__law_whole := d__law_whole
    D__law_whole := D__law_whole
    m__law_whole := He.glo_ok X G (c.fact 30 (f := .glo "_law_whole") rfl)
    a__law_moon := _
    d__law_moon := d__law_moon
    D__law_moon := D__law_moon
    m__law_moon := He.glo_ok X G (c.fact 31 (f := .glo "_law_moon") rfl)
    a__law_floor := _
    d__law_floor := d__law_floor
    D__law_floor := D__law_floor
    m__law_floor := He.glo_ok X G (c.fact 32 (f := .glo "_law_floor") rfl)
    a__law_new := _
    d__law_new := d__law_new
    D__law_new := D__law_new
    m__law_new := He.glo_ok X G (c.fact 33 (f := .glo "_law_new") rfl)
    a__law_is_going_on := _
    d__law_is_going_on := d__law_is_going_on
    D__law_is_going_on := D__law_is_going_on
    m__law_is_going_on := He.glo_ok X G (c.fact 34 (f := .glo "_law_is_going_on") rfl)
    a__law_are_moons_right := _
    d__law_are_moons_right := d__law_are_moons_right
    D__law_are_moons_right := D__law_are_moons_right
    m__law_are_moons_right := He.glo_ok X G (c.fact 35 (f := .glo "_law_are_moons_right") rfl)
    a__law_are_changes_right := _
    d__law_are_changes_right := d__law_are_changes_right
    D__law_are_changes_right := D__law_are_changes_right
    m__law_are_changes_right := He.glo_ok X G (c.fact 36 (f := .glo "_law_are_changes_right") rfl)
    a_law := _
    d_law := d_law
    D_law := D_law
    m_law := He.glo_ok X G (c.fact 37 (f := .glo "law") rfl)
    b_abs := He.free_ok X G (c.fact 38 (f := .free "abs") rfl)
    b_bool := He.free_ok X G (c.fact 39 (f := .free "bool") rfl)
    b_int := He.free_ok X G (c.fact 40 (f := .free "int") rfl)
    b_isinstance := He.free_ok X G (c.fact 41 (f := .free "isinstance") rfl)
    b_len := He.free_ok X G (c.fact 42 (f := .free "len") rfl)
    b_list := He.free_ok X G (c.fact 43 (f := .free "list") rfl)
    b_max := He.free_ok X G (c.fact 44 (f := .free "max") rfl)
    b_min := He.free_ok X G (c.fact 45 (f := .free "min") rfl)
    b_range := He.free_ok X G (c.fact 46 (f := .free "range") rfl)
    b_sorted := He.free_ok X G (c.fact 47 (f := .free "sorted") rfl)
    b_str := He.free_ok X G (c.fact 48 (f := .free "str") rfl)
    b_tuple := He.free_ok X G (c.fact 49 (f := .free "tuple") rfl)
    c_HALF := ⟨_, He.glo_ok X G (c.fact 50 (f := .glo "HALF") rfl), ct.tab 0 rfl⟩ }
  exact ⟨d_law, fun s v => b s [v] rfl, fun base _ _ => ok_law T⟩
end K92
open PySem PySem.W PySem.Calls PyProof.Rows
theorem K92.ends (lawT : ∀ ns : List Int, ns.length ≤ 63 → ∃ st, K92.F_law [.d (.frl (ns.map DL.D.int))] [] = some (.d (.bl true), st)) : PySem.Challenge.rw_boatsout_k92_whole_moons_that_come_again.Holds := by
  w_on; o_law
  refine HandSHeadRun.head_any (r := OpenLaw.row PySem.Challenge.rw_boatsout_k92_whole_moons_that_come_again) (q := view (OpenLaw.row PySem.Challenge.rw_boatsout_k92_whole_moons_that_come_again).prog [41]) (H := K92.hkl) (ob := K92.obl) (M := 1500) (loose := K92.loose) (d := HandSHeadRun.topDef (OpenLaw.row PySem.Challenge.rw_boatsout_k92_whole_moons_that_come_again).prog 41) (kwd := []) K92.obl_eq
    (by kernel_rfl) (fun s => by kernel_rfl) K92.runs (by kernel_rfl) (by kernel_rfl) (by kernel_rfl) (by rfl) (by first | assumption | decide +kernel) (by decide +kernel) ⟨rfl, rfl, rfl, rfl, rfl, by decide +kernel⟩ ?hw ?hc
  case hw => w_witness2
  case hc =>
    refine L2.walk_ofE (l := PySem.Challenge.rw_boatsout_k92_whole_moons_that_come_again) (n := 63) (k := 14) (x := "script") (CX := L2.CX0) rfl (by decide) (by kernel_rfl) ⟨rfl, by decide, by decide⟩ ?F (fun _ _ _ _ z => z)
    intro w mg fa h Y G hmg0
    obtain ⟨K, KX, c⟩ := Y
    have hmg : mg ("law" : PySem.Str) = some (.ref fa) := by
      have e : (HandSHeadRun.topDef (OpenLaw.row PySem.Challenge.rw_boatsout_k92_whole_moons_that_come_again).prog 41).name = ("law" : PySem.Str) := by kernel_rfl
      rw [← e]
      exact hmg0
    obtain ⟨fd, hb, hF⟩ := K92.facts (P := (PySem.Challenge.rw_boatsout_k92_whole_moons_that_come_again).prog) (w := w) KX G hmg c
    refine ⟨K, fd, DL.spOf K 1 K92.F_law, KX, hb, fun H a ns hl _ hS => ?_, hF⟩
    exact DL.end_sp (lawT ns hl) hS
theorem PySem.Challenge.cw_boatsout_k92_whole_moons_that_come_again_holds : PySem.Challenge.rw_boatsout_k92_whole_moons_that_come_again.Holds := by
  exact K92.ends fun ns hl => K92.fin_law hl
