import PyProof.Rows.All
import Wide.All
import OpenK.AllK
import Wide.FinOn
import HandS.ForMost
import HandS.ForExc
import HandS.Flow
import HandS.Style
import HandS.StrMore
import HandS.IsInst
import HandS.CallSlots
import HandS.TupLe
import HandS.FStr
import HandS.Small
import HandS.TryOnly
import HandS.Deep
import HandS.Wide
import HandS.TupAny
import HandS.TupMul
import KE.KRevSl
import KE.SortCalls
import KE.DataCmp
import KE.SortKeyed
import HandS.ExcValue
import HandS.SetKeys
import HandS.SetBool
import HandS.Set
import KE.GoesEnum
import HandS.Iter
import HandS.Text
import HandS.Codes
import PySem.Challenge.RW_madestore_k03_names_in_texts
section
set_option Elab.async false
set_option linter.all false
set_option maxRecDepth 100000
set_option maxHeartbeats 4000000
set_option autoImplicit false
/-! MM: a functional reading over the hand layer: values are data, mutable things are cells of a store. -/
namespace MM
open PySem PySem.Spec PyProof.Rows L2

/-! ### values, cells, results -/
/-- a value: data that never changes, a cell of the store that may be handed on, a cell of one frame's own, a thing of the written part -/
inductive Mv where
  | d (x : PyData) | ref (i : Nat) | own (i : Nat) | adr (a : Addr) | ty (n : String)
inductive Mo where
  | lst (xs : List Mv) | tup (xs : List Mv) | dct (kvs : List (Key × Mv)) | ins (C : Addr) (fs : List (Str × Mv)) | gone
abbrev Sg := List (Bool × Mo)
abbrev Rho := List (Option Mv)
abbrev Io := List (Bool × Addr)
structure Ex where
  cls : Value
  fs : Option (List (Str × Mv))
inductive Res (α : Type) where
  | ok (x : α) (S : Sg) | exc (e : Ex) (S : Sg) | bad
def Res.bind {α β : Type} : Res α → (α → Sg → Res β) → Res β
  | .ok x S, f => f x S
  | .exc e S, _ => .exc e S
  | .bad, _ => .bad
abbrev ME := Rho → Sg → Res Mv
abbrev MT := Rho → Sg → Res Bool
abbrev MA := Rho → Sg → Res (List Mv)
inductive RS where
  | nx (ρ : Rho) (S : Sg) | rt (x : Mv) (S : Sg) | bk (ρ : Rho) (S : Sg) | ct (ρ : Rho) (S : Sg) | exc (e : Ex) (ρ : Rho) (S : Sg) | bad
abbrev MS := Rho → Sg → RS

/-! ### frozen data -/
def FzL (K : PySem.W.Frag) (H : Hp) (a : Addr) (xs : List V) : Prop :=
  (∃ o, H a = some (.frz o (.lst xs))) ∨ ∃ (its : Array Value) (n : Nat), K.lookup a = some { cls := .type "list", data := .seq its n } ∧ its.size ≤ sizeLine ∧ Vals xs its.toList
/-- a list whose object is a plain one -/
def PlnL (K : PySem.W.Frag) (H : Hp) (a : Addr) (xs : List V) : Prop := H a = some (.lst xs) ∨ FzL K H a xs
theorem FzL.sq {K : PySem.W.Frag} {H : Hp} {a : Addr} {xs : List V} (h : FzL K H a xs) : SqL K H a xs := by
  rcases h with h | ⟨its, n, h1, h2, h3⟩
  · exact .inl (.inr h)
  · exact .inr ⟨_, its, n, h1, rfl, rfl, rfl, h2, h3⟩
theorem PlnL.sq {K : PySem.W.Frag} {H : Hp} {a : Addr} {xs : List V} (h : PlnL K H a xs) : SqL K H a xs := by
  rcases h with h | h
  · exact .inl (.inl h)
  · exact h.sq
theorem PlnL.obj {X : Cx} {pins : List (Addr × Obj)} {σ : L2.St} {H : Hp} {s : Shared} {a : Addr} {xs : List V} (I : Inv X pins σ H s) (h : PlnL X.K H a xs) :
    ∃ (its : List Value) (n : Nat), s.heap.get? a = some { cls := .type "list", data := .seq its.toArray n } ∧ Vals xs its ∧ xs.length ≤ sizeLine := by
  rcases h with h | ⟨o, h⟩ | ⟨its, n, h1, h2, h3⟩
  · obtain ⟨z, its, n, r, e⟩ := I.hok a _ h
    exact ⟨its, n, e, r, z⟩
  · obtain ⟨_, z, its, n, r, e⟩ := I.hok a _ h
    exact ⟨its, n, e, r, z⟩
  · refine ⟨its.toList, n, ?_, h3, by rw [h3.length]; simpa using h2⟩
    have e := I.kIn _ _ h1
    simpa using e
def keyD : Key → PyData
  | .inl i => .int i
  | .inr x => .str x
mutual
inductive FD (K : PySem.W.Frag) (H : Hp) : PyData → V → Prop
  | non : FD K H .none .non
  | bl (b : Bool) : FD K H (.bool b) (.bl b)
  | int (i : Int) : FD K H (.int i) (.int i)
  | str (x : Str) : FD K H (.str x) (.str x)
  | lst {a : Addr} {xs : List V} {ds : List PyData} : FzL K H a xs → FDs K H ds xs → FD K H (.list ds) (.ref a)
  | tup {a : Addr} {xs : List V} {ds : List PyData} : SqT K H a xs → FDs K H ds xs → FD K H (.tuple ds) (.ref a)
  | dct {a : Addr} {o : Obj} {kvs : List (Key × V)} {ds : List (PyData × PyData)} : H a = some (.frz o (.dK kvs)) → FDk K H ds kvs → FD K H (.dict ds) (.ref a)
inductive FDs (K : PySem.W.Frag) (H : Hp) : List PyData → List V → Prop
  | nil : FDs K H [] []
  | cons {v : V} {vs : List V} {d : PyData} {ds : List PyData} : FD K H d v → FDs K H ds vs → FDs K H (d :: ds) (v :: vs)
inductive FDk (K : PySem.W.Frag) (H : Hp) : List (PyData × PyData) → List (Key × V) → Prop
  | nil : FDk K H [] []
  | cons {k : Key} {v : V} {vs : List (Key × V)} {d : PyData} {ds : List (PyData × PyData)} : FD K H d v → FDk K H ds vs → FDk K H ((keyD k, d) :: ds) ((k, v) :: vs)
end

/-- what never changes stays -/
structure Grow (H H' : Hp) : Prop where
  tup : ∀ a xs, H a = some (.tup xs) → H' a = some (.tup xs)
  frz : ∀ a o u, H a = some (.frz o u) → H' a = some (.frz o u)
theorem Grow.refl (H : Hp) : Grow H H := ⟨fun _ _ h => h, fun _ _ _ h => h⟩
theorem Grow.trans {H H1 H2 : Hp} (a : Grow H H1) (b : Grow H1 H2) : Grow H H2 := ⟨fun c xs h => b.tup c xs (a.tup c xs h), fun c o u h => b.frz c o u (a.frz c o u h)⟩
theorem Grow.new {H : Hp} {p : Addr} {o : HO} (h : H p = none) : Grow H (upd H p o) :=
  ⟨fun a xs e => by rw [upd_ne (ne_of_none e h)]; exact e, fun a ob u e => by rw [upd_ne (ne_of_none e h)]; exact e⟩
theorem Grow.write {H : Hp} {p : Addr} {o u : HO} (h : H p = some u) (m : Mut (some u)) : Grow H (upd H p o) :=
  ⟨fun a xs e => by rw [upd_ne (fun z => by rw [z, h] at e; cases e; exact m)]; exact e, fun a ob w e => by rw [upd_ne (fun z => by rw [z, h] at e; cases e; exact m)]; exact e⟩
section
variable {K : PySem.W.Frag} {H H' : Hp}
theorem FzL.mono {a : Addr} {xs : List V} (g : Grow H H') (h : FzL K H a xs) : FzL K H' a xs := by
  rcases h with ⟨o, h⟩ | h
  · exact .inl ⟨o, g.frz _ _ _ h⟩
  · exact .inr h
theorem SqT_mono {a : Addr} {xs : List V} (g : Grow H H') (h : SqT K H a xs) : SqT K H' a xs := by
  rcases h with (h | ⟨o, h⟩) | h
  · exact .inl (.inl (g.tup _ _ h))
  · exact .inl (.inr ⟨o, g.frz _ _ _ h⟩)
  · exact .inr h
mutual
theorem FD.mono (g : Grow H H') : ∀ {d : PyData} {v : V}, FD K H d v → FD K H' d v
  | _, _, .non => .non
  | _, _, .bl b => .bl b
  | _, _, .int i => .int i
  | _, _, .str x => .str x
  | _, _, .lst h hs => .lst (h.mono g) (FDs.mono g hs)
  | _, _, .tup h hs => .tup (SqT_mono g h) (FDs.mono g hs)
  | _, _, .dct h hs => .dct (g.frz _ _ _ h) (FDk.mono g hs)
theorem FDs.mono (g : Grow H H') : ∀ {ds : List PyData} {vs : List V}, FDs K H ds vs → FDs K H' ds vs
  | _, _, .nil => .nil
  | _, _, .cons h hs => .cons (FD.mono g h) (FDs.mono g hs)
theorem FDk.mono (g : Grow H H') : ∀ {ds : List (PyData × PyData)} {vs : List (Key × V)}, FDk K H ds vs → FDk K H' ds vs
  | _, _, .nil => .nil
  | _, _, .cons h hs => .cons (FD.mono g h) (FDk.mono g hs)
end

/-! ### values at a heap -/
def XV (K : PySem.W.Frag) (ι : Io) (H : Hp) : Mv → V → Prop
  | .d x, v => FD K H x v
  | .ref i, v => ∃ a, ι[i]? = some (false, a) ∧ v = .ref a
  | .own i, v => ∃ a, ι[i]? = some (true, a) ∧ v = .ref a
  | .adr a, v => v = .ref a
  | .ty n, v => v = .ty n
def Mv.free : Mv → Bool
  | .own _ => false
  | _ => true
/-- a value that may be stored -/
def XC (K : PySem.W.Frag) (ι : Io) (H : Hp) (x : Mv) (v : V) : Prop := x.free = true ∧ XV K ι H x v
abbrev XVs (K : PySem.W.Frag) (ι : Io) (H : Hp) : List Mv → List V → Prop := Paired (XV K ι H)
abbrev XCs (K : PySem.W.Frag) (ι : Io) (H : Hp) : List Mv → List V → Prop := Paired (XC K ι H)
def OV (K : PySem.W.Frag) (ι : Io) (H : Hp) (a : Addr) : Mo → Prop
  | .lst xs => ∃ vs, H a = some (.lst vs) ∧ XCs K ι H xs vs
  | .tup xs => ∃ vs, H a = some (.tup vs) ∧ XCs K ι H xs vs
  | .dct kvs => ∃ kv, H a = some (.dK kv) ∧ Paired (fun (p : Key × Mv) (q : Key × V) => p.1 = q.1 ∧ XC K ι H p.2 q.2) kvs kv
  | .ins C fs => ∃ dx fv, H a = some (.ins C dx fv) ∧ Paired (fun (p : Str × Mv) (q : Str × V) => p.1 = q.1 ∧ XC K ι H p.2 q.2) fs fv
  | .gone => True
structure Rl (K : PySem.W.Frag) (ι : Io) (S : Sg) (H : Hp) : Prop where
  flag : ι.map (·.1) = S.map (·.1)
  nd : (ι.map (·.2)).Nodup
  live : ∀ p ∈ ι, H p.2 ≠ none
  cell : ∀ (i : Nat) (b : Bool) (o : Mo) (a : Addr), S[i]? = some (b, o) → ι[i]? = some (b, a) → OV K ι H a o
/-- the store grew, what never changes stays, what is no cell stays -/
structure Sub (ι : Io) (H : Hp) (ι' : Io) (H' : Hp) : Prop where
  pre : ∃ t, ι' = ι ++ t ∧ ∀ q ∈ t, H q.2 = none
  grow : Grow H H'
  keep : ∀ p o, H p = some o → (∀ q ∈ ι, q.2 ≠ p) → H' p = some o
  live : ∀ p, H p ≠ none → H' p ≠ none
theorem Sub.same {ι : Io} {H H' : Hp} (g : Grow H H') (k : ∀ p o, H p = some o → (∀ q ∈ ι, q.2 ≠ p) → H' p = some o) (l : ∀ p, H p ≠ none → H' p ≠ none) : Sub ι H ι H' :=
  ⟨⟨[], (List.append_nil _).symm, fun _ h => nomatch h⟩, g, k, l⟩
theorem Sub.refl (ι : Io) (H : Hp) : Sub ι H ι H := Sub.same (Grow.refl H) (fun _ _ h _ => h) fun _ h => h
theorem Sub.trans {ι ι1 ι2 : Io} {H H1 H2 : Hp} (a : Sub ι H ι1 H1) (b : Sub ι1 H1 ι2 H2) : Sub ι H ι2 H2 := by
  obtain ⟨t, rfl, ht⟩ := a.pre
  obtain ⟨u, rfl, hu⟩ := b.pre
  refine ⟨⟨t ++ u, by rw [List.append_assoc], fun q hq => ?_⟩, a.grow.trans b.grow, fun p o h hp => ?_, fun p h => b.live p (a.live p h)⟩
  · rcases List.mem_append.mp hq with hq | hq
    · exact ht q hq
    · cases e : H q.2 with
      | none => rfl
      | some o => exact (a.live q.2 (by rw [e]; exact fun z => nomatch z) (hu q hq)).elim
  · refine b.keep p o (a.keep p o h hp) fun q hq => ?_
    rcases List.mem_append.mp hq with hq | hq
    · exact hp q hq
    · exact fun z => by rw [← z, ht q hq] at h; cases h
theorem Sub.at {ι ι' : Io} {H H' : Hp} (s : Sub ι H ι' H') {i : Nat} {p : Bool × Addr} (h : ι[i]? = some p) : ι'[i]? = some p := by
  obtain ⟨t, rfl, _⟩ := s.pre
  rw [List.getElem?_append_left (List.getElem?_eq_some_iff.mp h).1]; exact h
theorem Sub.new {ι : Io} {H : Hp} {p : Addr} {u : HO} (hp : H p = none) : Sub ι H ι (upd H p u) :=
  Sub.same (Grow.new hp) (fun q o e _ => by rw [upd_ne (ne_of_none e hp)]; exact e) fun q h => by
    by_cases e : q = p
    · rw [e, upd_same]; exact fun z => nomatch z
    · rw [upd_ne e]; exact h
theorem Sub.put {ι : Io} {H : Hp} {p : Addr} {b : Bool} {u v : HO} (hi : (b, p) ∈ ι) (hv : H p = some v) (m : Mut (some v)) : Sub ι H ι (upd H p u) :=
  Sub.same (Grow.write hv m) (fun q o e ne => by rw [upd_ne (fun z => ne _ hi z.symm)]; exact e) fun q h => by
    by_cases e : q = p
    · rw [e, upd_same]; exact fun z => nomatch z
    · rw [upd_ne e]; exact h
/-- a fresh thing is changed again -/
theorem Sub.again {ι ι' : Io} {H H' : Hp} {p : Addr} {u v : HO} (s : Sub ι H ι' H') (h0 : H p = none) (hv : H' p = some v) : Sub ι H ι' (upd H' p u) := by
  have ne : ∀ q o, H q = some o → q ≠ p := fun q o e z => by rw [z, h0] at e; cases e
  refine ⟨s.pre, ⟨fun a xs e => ?_, fun a o w e => ?_⟩, fun q o e hq => ?_, fun q h => ?_⟩
  · rw [upd_ne (ne a _ e)]; exact s.grow.tup a xs e
  · rw [upd_ne (ne a _ e)]; exact s.grow.frz a o w e
  · rw [upd_ne (ne q _ e)]; exact s.keep q o e hq
  · by_cases e : q = p
    · rw [e, upd_same]; exact fun z => nomatch z
    · rw [upd_ne e]; exact s.live q h
/-- a fresh thing becomes a cell -/
theorem Sub.cell {ι ι' : Io} {H H' : Hp} {p : Addr} {b : Bool} (s : Sub ι H ι' H') (h0 : H p = none) : Sub ι H (ι' ++ [(b, p)]) H' := by
  obtain ⟨t, rfl, ht⟩ := s.pre
  refine ⟨⟨t ++ [(b, p)], by rw [List.append_assoc], fun q hq => ?_⟩, s.grow, s.keep, s.live⟩
  rcases List.mem_append.mp hq with hq | hq
  · exact ht q hq
  · have : q = (b, p) := by simpa using hq
    rw [this]; exact h0
variable {ι ι' : Io} {S S' : Sg}
theorem XV.grown (hp : ∃ t, ι' = ι ++ t) (g : Grow H H') : ∀ {x : Mv} {v : V}, XV K ι H x v → XV K ι' H' x v
  | .d _, _, h => FD.mono g h
  | .ref _, _, ⟨a, h, e⟩ => ⟨a, by obtain ⟨t, rfl⟩ := hp; rw [List.getElem?_append_left (List.getElem?_eq_some_iff.mp h).1]; exact h, e⟩
  | .own _, _, ⟨a, h, e⟩ => ⟨a, by obtain ⟨t, rfl⟩ := hp; rw [List.getElem?_append_left (List.getElem?_eq_some_iff.mp h).1]; exact h, e⟩
  | .adr _, _, h => h
  | .ty _, _, h => h
theorem Sub.pre' {ι ι' : Io} {H H' : Hp} (s : Sub ι H ι' H') : ∃ t, ι' = ι ++ t := let ⟨t, e, _⟩ := s.pre; ⟨t, e⟩
theorem XV.mono (s : Sub ι H ι' H') {x : Mv} {v : V} (h : XV K ι H x v) : XV K ι' H' x v := h.grown s.pre' s.grow
theorem XC.mono (s : Sub ι H ι' H') {x : Mv} {v : V} (h : XC K ι H x v) : XC K ι' H' x v := ⟨h.1, h.2.mono s⟩
theorem XVs.mono (s : Sub ι H ι' H') {xs : List Mv} {vs : List V} (h : XVs K ι H xs vs) : XVs K ι' H' xs vs := L2.Paired.mapP h fun _ _ r => r.mono s
theorem XCs.mono (s : Sub ι H ι' H') {xs : List Mv} {vs : List V} (h : XCs K ι H xs vs) : XCs K ι' H' xs vs := L2.Paired.mapP h fun _ _ r => r.mono s
theorem XCs.grown (hp : ∃ t, ι' = ι ++ t) (g : Grow H H') {xs : List Mv} {vs : List V} (h : XCs K ι H xs vs) : XCs K ι' H' xs vs := L2.Paired.mapP h fun _ _ r => ⟨r.1, r.2.grown hp g⟩
theorem XCs.xv {xs : List Mv} {vs : List V} (h : XCs K ι H xs vs) : XVs K ι H xs vs := L2.Paired.mapP h fun _ _ r => r.2
/-- contents carried over -/
theorem OV.grown (hp : ∃ t, ι' = ι ++ t) (g : Grow H H') {a : Addr} {o : Mo} (e : H' a = H a) (h : OV K ι H a o) : OV K ι' H' a o := by
  cases o with
  | lst xs => obtain ⟨vs, e1, r⟩ := h; exact ⟨vs, e.trans e1, XCs.grown hp g r⟩
  | tup xs => obtain ⟨vs, e1, r⟩ := h; exact ⟨vs, e.trans e1, XCs.grown hp g r⟩
  | dct kvs => obtain ⟨kv, e1, r⟩ := h; exact ⟨kv, e.trans e1, L2.Paired.mapP r fun _ _ q => ⟨q.1, q.2.1, q.2.2.grown hp g⟩⟩
  | ins C fs => obtain ⟨dx, fv, e1, r⟩ := h; exact ⟨dx, fv, e.trans e1, L2.Paired.mapP r fun _ _ q => ⟨q.1, q.2.1, q.2.2.grown hp g⟩⟩
  | gone => trivial
theorem OV.carry (s : Sub ι H ι' H') {a : Addr} {o : Mo} (e : H' a = H a) (h : OV K ι H a o) : OV K ι' H' a o := OV.grown s.pre' s.grow e h
def LR (K : PySem.W.Frag) (ι : Io) (H : Hp) (ρ : Rho) (σ : L2.St) : Prop :=
  ρ.length = σ.length ∧ ∀ (i : Nat) (x : Mv), ρ[i]? = some (some x) → ∃ v, σ[i]? = some (some v) ∧ XV K ι H x v
theorem LR.mono (s : Sub ι H ι' H') {ρ : Rho} {σ : L2.St} (h : LR K ι H ρ σ) : LR K ι' H' ρ σ :=
  ⟨h.1, fun i x e => let ⟨v, e1, r⟩ := h.2 i x e; ⟨v, e1, r.mono s⟩⟩
theorem LR.set {ρ : Rho} {σ : L2.St} (h : LR K ι H ρ σ) (i : Nat) {x : Mv} {v : V} (r : XV K ι H x v) : LR K ι H (ρ.set i (some x)) (σ.set i (some v)) := by
  refine ⟨by rw [List.length_set, List.length_set]; exact h.1, fun j y e => ?_⟩
  by_cases hj : i = j
  · subst hj
    by_cases hl : i < ρ.length
    · rw [List.getElem?_set_self hl] at e
      cases e
      exact ⟨v, by rw [List.getElem?_set_self (h.1 ▸ hl)], r⟩
    · rw [List.getElem?_eq_none (by rw [List.length_set]; omega)] at e; cases e
  · rw [List.getElem?_set_ne hj] at e
    obtain ⟨u, e1, r1⟩ := h.2 j y e
    exact ⟨u, by rw [List.getElem?_set_ne hj]; exact e1, r1⟩
def ExR (K : PySem.W.Frag) (ι : Io) (H : Hp) (e : Ex) (d : Option Addr) : Prop :=
  match e.fs with
  | none => True
  | some l => ∃ dd kv, d = some dd ∧ H dd = some (.xd kv) ∧ Paired (fun (p : Str × Mv) (q : Str × V) => p.1 = q.1 ∧ XV K ι H p.2 q.2) l kv

/-! ### the store's moves -/
theorem Rl.len (h : Rl K ι S H) : ι.length = S.length := by
  have := congrArg List.length h.flag
  simpa using this
theorem Rl.at (h : Rl K ι S H) {i : Nat} {b : Bool} {o : Mo} (e : S[i]? = some (b, o)) : ∃ a, ι[i]? = some (b, a) ∧ OV K ι H a o := by
  have h1 : (ι.map (·.1))[i]? = some b := by rw [h.flag, List.getElem?_map, e]; rfl
  rw [List.getElem?_map] at h1
  cases q : ι[i]? with
  | none => rw [q] at h1; cases h1
  | some p =>
    obtain ⟨b', a⟩ := p
    rw [q] at h1
    cases h1
    exact ⟨a, rfl, h.cell i b' o a e q⟩
/-- a new cell -/
theorem Rl.push (h : Rl K ι S H) {p : Addr} {u : HO} {b : Bool} {o : Mo} (hp : H p = none) (hu : OV K (ι ++ [(b, p)]) (upd H p u) p o) :
    Rl K (ι ++ [(b, p)]) (S ++ [(b, o)]) (upd H p u) ∧ Sub ι H (ι ++ [(b, p)]) (upd H p u) := by
  have sb : Sub ι H (ι ++ [(b, p)]) (upd H p u) := (Sub.new hp).cell hp
  refine ⟨⟨by simp [h.flag], ?_, fun q hq => ?_, fun i c w a e1 e2 => ?_⟩, sb⟩
  · rw [List.map_append]
    refine List.nodup_append.mpr ⟨h.nd, by simp, fun x hx y hy e => ?_⟩
    have hy' : y = p := by simpa using hy
    obtain ⟨q, hq, rfl⟩ := List.mem_map.mp hx
    exact h.live q hq (by rw [e, hy', hp])
  · rcases List.mem_append.mp hq with hq | hq
    · have : q.2 ≠ p := fun z => h.live q hq (by rw [z]; exact hp)
      rw [upd_ne this]; exact h.live q hq
    · have : q = (b, p) := by simpa using hq
      rw [this, upd_same]; exact fun z => by cases z
  · by_cases hi : i < S.length
    · rw [List.getElem?_append_left hi] at e1
      rw [List.getElem?_append_left (by rw [h.len]; exact hi)] at e2
      refine OV.carry sb ?_ (h.cell i c w a e1 e2)
      have hm : (c, a) ∈ ι := List.mem_of_getElem? e2
      exact upd_ne fun z => h.live _ hm (by rw [show ((c, a) : Bool × Addr).2 = a from rfl, z]; exact hp)
    · have hl : (S ++ [(b, o)]).length = S.length + 1 := by simp
      have hlt := (List.getElem?_eq_some_iff.mp e1).1
      have ei : i = S.length := by omega
      subst ei
      rw [List.getElem?_append_right (Nat.le_refl _)] at e1
      rw [List.getElem?_append_right (by rw [h.len]; exact Nat.le_refl _), h.len] at e2
      simp at e1 e2
      obtain ⟨rfl, rfl⟩ := e1
      obtain ⟨_, rfl⟩ := e2
      exact hu
/-- something new beside the store -/
theorem Rl.beside (h : Rl K ι S H) {p : Addr} {u : HO} (hp : H p = none) : Rl K ι S (upd H p u) ∧ Sub ι H ι (upd H p u) := by
  have sb : Sub ι H ι (upd H p u) := Sub.new hp
  have ne : ∀ q ∈ ι, q.2 ≠ p := fun q hq z => h.live q hq (by rw [z]; exact hp)
  refine ⟨⟨h.flag, h.nd, fun q hq => by rw [upd_ne (ne q hq)]; exact h.live q hq, fun i c w a e1 e2 => ?_⟩, sb⟩
  exact OV.carry sb (upd_ne (ne _ (List.mem_of_getElem? e2))) (h.cell i c w a e1 e2)
/-- what is tracked and no cell of the store changes -/
theorem Rl.aside (h : Rl K ι S H) {p : Addr} {u v : HO} (hp : H p = some v) (m : Mut (some v)) (ne : ∀ q ∈ ι, q.2 ≠ p) : Rl K ι S (upd H p u) := by
  refine ⟨h.flag, h.nd, fun q hq => by rw [upd_ne (ne q hq)]; exact h.live q hq, fun i c w a e1 e2 => ?_⟩
  exact OV.grown ⟨[], (List.append_nil _).symm⟩ (Grow.write hp m) (upd_ne (ne _ (List.mem_of_getElem? e2))) (h.cell i c w a e1 e2)
theorem nodup_at {ι : Io} (nd : (ι.map (·.2)).Nodup) {i j : Nat} {b c : Bool} {a : Addr} (hi : ι[i]? = some (b, a)) (hj : ι[j]? = some (c, a)) : i = j := by
  have h1 := List.getElem?_eq_some_iff.mp hi
  have h2 := List.getElem?_eq_some_iff.mp hj
  obtain ⟨l1, e1⟩ := h1
  obtain ⟨l2, e2⟩ := h2
  have n1 : i < (ι.map (·.2)).length := by simpa using l1
  have n2 : j < (ι.map (·.2)).length := by simpa using l2
  refine (List.getElem_inj (h₀ := n1) (h₁ := n2) nd).mp ?_
  rw [List.getElem_map, List.getElem_map, e1, e2]
/-- a cell is written -/
theorem Rl.put (h : Rl K ι S H) {i : Nat} {b : Bool} {o : Mo} {a : Addr} {u v : HO} (hS : ∃ o', S[i]? = some (b, o')) (hi : ι[i]? = some (b, a)) (hv : H a = some v) (m : Mut (some v))
    (ho : OV K ι (upd H a u) a o) : Rl K ι (S.set i (b, o)) (upd H a u) ∧ Sub ι H ι (upd H a u) := by
  have sb : Sub ι H ι (upd H a u) := Sub.put (List.mem_of_getElem? hi) hv m
  obtain ⟨o', hS⟩ := hS
  have hl := (List.getElem?_eq_some_iff.mp hS).1
  refine ⟨⟨?_, h.nd, fun q hq => ?_, fun j c w x e1 e2 => ?_⟩, sb⟩
  · rw [h.flag]
    refine List.ext_getElem? fun j => ?_
    rw [List.getElem?_map, List.getElem?_map]
    by_cases hj : i = j
    · subst hj
      rw [List.getElem?_set_self hl, hS]; rfl
    · rw [List.getElem?_set_ne hj]
  · by_cases hq2 : q.2 = a
    · rw [hq2, upd_same]; exact fun z => by cases z
    · rw [upd_ne hq2]; exact h.live q hq
  · by_cases hj : i = j
    · subst hj
      rw [List.getElem?_set_self hl] at e1
      rw [hi] at e2
      cases e1; cases e2
      exact ho
    · rw [List.getElem?_set_ne hj] at e1
      refine OV.carry sb (upd_ne fun z => ?_) (h.cell j c w x e1 e2)
      subst z
      exact hj (nodup_at h.nd hi e2)
/-- a cell is given up -/
theorem Rl.drop (h : Rl K ι S H) {i : Nat} {b : Bool} (hS : ∃ o', S[i]? = some (b, o')) : Rl K ι (S.set i (b, .gone)) H := by
  obtain ⟨o', hS⟩ := hS
  have hl := (List.getElem?_eq_some_iff.mp hS).1
  refine ⟨?_, h.nd, h.live, fun j c w x e1 e2 => ?_⟩
  · rw [h.flag]
    refine List.ext_getElem? fun j => ?_
    rw [List.getElem?_map, List.getElem?_map]
    by_cases hj : i = j
    · subst hj
      rw [List.getElem?_set_self hl, hS]; rfl
    · rw [List.getElem?_set_ne hj]
  · by_cases hj : i = j
    · subst hj
      rw [List.getElem?_set_self hl] at e1
      cases e1
      trivial
    · rw [List.getElem?_set_ne hj] at e1
      exact h.cell j c w x e1 e2
/-- a frame's own cells at the end are let go -/
theorem XV.trim {t : Io} (ht : ∀ p ∈ t, p.1 = true) : ∀ {x : Mv} {v : V}, x.free = true → XV K (ι ++ t) H x v → XV K ι H x v
  | .d _, _, _, h => h
  | .ref i, _, _, ⟨a, h, e⟩ => by
    refine ⟨a, ?_, e⟩
    by_cases hi : i < ι.length
    · rw [List.getElem?_append_left hi] at h; exact h
    · rw [List.getElem?_append_right (by omega)] at h
      have := ht _ (List.mem_of_getElem? h)
      cases this
  | .adr _, _, _, h => h
  | .ty _, _, _, h => h
theorem Rl.trim {t : Io} {T : Sg} (h : Rl K (ι ++ t) (S ++ T) H) (hl : ι.length = S.length) (hT : ∀ p ∈ T, p.1 = true) : Rl K ι S H := by
  have hf : ι.map (·.1) = S.map (·.1) ∧ t.map (·.1) = T.map (·.1) := by
    have e := h.flag
    rw [List.map_append, List.map_append] at e
    exact List.append_inj e (by simpa using hl)
  have ht : ∀ p ∈ t, p.1 = true := fun p hp => by
    have : p.1 ∈ T.map (·.1) := by rw [← hf.2]; exact List.mem_map_of_mem hp
    obtain ⟨q, hq, e⟩ := List.mem_map.mp this
    rw [← e]; exact hT q hq
  have tr : ∀ {x : Mv} {v : V}, XC K (ι ++ t) H x v → XC K ι H x v := fun r => ⟨r.1, XV.trim ht r.1 r.2⟩
  refine ⟨hf.1, ?_, fun p hp => h.live p (List.mem_append_left _ hp), fun i b o a e1 e2 => ?_⟩
  · have := h.nd
    rw [List.map_append] at this
    exact (List.nodup_append.mp this).1
  · have i1 := (List.getElem?_eq_some_iff.mp e1).1
    have i2 := (List.getElem?_eq_some_iff.mp e2).1
    have q := h.cell i b o a (by rw [List.getElem?_append_left i1]; exact e1) (by rw [List.getElem?_append_left i2]; exact e2)
    cases o with
    | lst xs => obtain ⟨vs, e, r⟩ := q; exact ⟨vs, e, L2.Paired.mapP r fun _ _ z => tr z⟩
    | tup xs => obtain ⟨vs, e, r⟩ := q; exact ⟨vs, e, L2.Paired.mapP r fun _ _ z => tr z⟩
    | dct kvs => obtain ⟨kv, e, r⟩ := q; exact ⟨kv, e, L2.Paired.mapP r fun _ _ z => ⟨z.1, tr z.2⟩⟩
    | ins C fs => obtain ⟨dx, fv, e, r⟩ := q; exact ⟨dx, fv, e, L2.Paired.mapP r fun _ _ z => ⟨z.1, tr z.2⟩⟩
    | gone => trivial
end
end MM
end
section
set_option Elab.async false
set_option linter.all false
set_option maxRecDepth 100000
set_option maxHeartbeats 4000000
set_option autoImplicit false
namespace MM
open PySem PySem.Spec PyProof.Rows L2

/-! ### the reading of a mirror -/
section
variable {α β γ δ : Type}
def Post (R : Io → Hp → α → β → Prop) (K : PySem.W.Frag) (W : WX) (ι : Io) (σ : L2.St) (H : Hp) (Q : β → Hp → Prop) : Res α → Prop
  | .ok x S' => ∀ ι' H' v, Sub ι H ι' H' → Rl K ι' S' H' → R ι' H' x v → Q v H'
  | .exc e S' => ∀ ι' H' d, Sub ι H ι' H' → Rl K ι' S' H' → ExR K ι' H' e d → W e.cls d σ H'
  | .bad => False
def tG (R : Io → Hp → α → β → Prop) (K : PySem.W.Frag) (W : WX) (m : Rho → Sg → Res α) : L2.St → Hp → (β → Hp → Prop) → Prop :=
  fun σ H Q => ∃ ι S ρ, LR K ι H ρ σ ∧ Rl K ι S H ∧ Post R K W ι σ H Q (m ρ S)
variable {R : Io → Hp → α → β → Prop} {R' : Io → Hp → γ → δ → Prop} {K : PySem.W.Frag} {W : WX} {ι ι1 : Io} {σ : L2.St} {H H1 : Hp} {S : Sg}
theorem Post.sub {Q : β → Hp → Prop} {r : Res α} (s : Sub ι H ι1 H1) (h : Post R K W ι σ H Q r) : Post R K W ι1 σ H1 Q r := by
  cases r with
  | ok x S' => exact fun ι' H' v s' => h ι' H' v (s.trans s')
  | exc e S' => exact fun ι' H' d s' => h ι' H' d (s.trans s')
  | bad => exact h
theorem step {Q : δ → Hp → Prop} {T : β → Hp → Prop} {m : Res α} {f : α → Sg → Res γ} (hp : Post R' K W ι σ H Q (m.bind f))
    (k : ∀ x v ι1 H1 S1, Sub ι H ι1 H1 → Rl K ι1 S1 H1 → R ι1 H1 x v → Post R' K W ι1 σ H1 Q (f x S1) → T v H1) : Post R K W ι σ H T m := by
  cases m with
  | ok x S' => exact fun ι' H' v s r x' => k x v ι' H' S' s r x' (hp.sub s)
  | exc e S' => exact hp
  | bad => exact hp
theorem Post.imp {Q T : β → Hp → Prop} {r : Res α} (h : Post R K W ι σ H Q r) (k : ∀ v H, Q v H → T v H) : Post R K W ι σ H T r := by
  cases r with
  | ok x S' => exact fun ι' H' v s r q => k _ _ (h ι' H' v s r q)
  | exc e S' => exact h
  | bad => exact h
end

abbrev RB : Io → Hp → Bool → Bool → Prop := fun _ _ b c => b = c
def PM (X : Cx) (W : WX) (e : Expr) (m : ME) : Prop := PE X e (tG (XV X.K) X.K W m)
def PB (X : Cx) (W : WX) (e : Expr) (m : MT) : Prop := PT X e (tG RB X.K W m)
def PWB (X : Cx) (W : WX) (e : Expr) (m : MT) : Prop := PW X e (tG RB X.K W m)
def PL (X : Cx) (W : WX) (es : List Expr) (m : MA) : Prop := PA X es (tG (XVs X.K) X.K W m)

theorem pe_imp {X : Cx} {e : Expr} {t t' : TE} (h : PE X e t) (i : ∀ σ H Q, t' σ H Q → t σ H Q) : PE X e t' := ⟨fun pins s σ H Q I q => h.run pins s σ H Q I (i _ _ _ q)⟩
theorem pt_imp {X : Cx} {e : Expr} {t t' : TT} (h : PT X e t) (i : ∀ σ H Q, t' σ H Q → t σ H Q) : PT X e t' := ⟨fun pins s σ H Q I q => h.run pins s σ H Q I (i _ _ _ q)⟩
theorem pw_imp {X : Cx} {e : Expr} {t t' : TT} (h : PW X e t) (i : ∀ σ H Q, t' σ H Q → t σ H Q) : PW X e t' := ⟨fun whole pins s σ H Q I q => h.run whole pins s σ H Q I (i _ _ _ q)⟩
theorem pa_imp {X : Cx} {e : List Expr} {t t' : TA} (h : PA X e t) (i : ∀ σ H Q, t' σ H Q → t σ H Q) : PA X e t' := ⟨fun pos pins s σ H Q I q => h.run pos pins s σ H Q I (i _ _ _ q)⟩
theorem ps_imp {X : Cx} {e : Stmt} {t t' : TS} (h : PS X e t) (i : ∀ D σ H, t' D σ H → t D σ H) : PS X e t' := ⟨fun pins s σ H Q I q => h.run pins s σ H Q I (i _ _ _ q)⟩
theorem pss_imp {X : Cx} {e : List Stmt} {t t' : TS} (h : PSs X e t) (i : ∀ D σ H, t' D σ H → t D σ H) : PSs X e t' := ⟨fun pins s σ H Q I q => h.run pins s σ H Q I (i _ _ _ q)⟩
theorem OpR.imp {X : Cx} {f : Value → Value → Sem Value} {r r' : R2} (h : OpR X f r) (i : ∀ x y H Q, r' x y H Q → r x y H Q) : OpR X f r' := fun pins s σ H x y v u Q I rx ry q => h pins s σ H x y v u Q I rx ry (i _ _ _ _ q)

/-! ### a result that may be a new list -/
inductive Nw where
  | val (z : Mv) | lst (xs : List Mv) | tup (xs : List Mv)
inductive Bi where
  | frz | ref | own
def allD : List Mv → Option (List PyData)
  | [] => some []
  | .d x :: r => (allD r).map (x :: ·)
  | _ :: _ => none
def frees (xs : List Mv) : Bool := xs.all (·.free)
def bear (b : Bi) (n : Nw) (S : Sg) : Res Mv :=
  match n with
  | .val z => .ok z S
  | .lst xs =>
    match b with
    | .frz => match allD xs with | some ds => .ok (.d (.list ds)) S | none => .bad
    | .ref => .ok (.ref S.length) (S ++ [(false, .lst xs)])
    | .own => .ok (.own S.length) (S ++ [(true, .lst xs)])
  | .tup xs => match allD xs with | some ds => .ok (.d (.tuple ds)) S | none => .ok (.ref S.length) (S ++ [(false, .tup xs)])
def Raw (K : PySem.W.Frag) (ι : Io) (H : Hp) (Q : VK) : Nw → Prop
  | .val z => ∀ w, XV K ι H z w → Q w H
  | .lst xs => ∀ vs p, XCs K ι H xs vs → H p = none → Q (.ref p) (upd H p (.lst vs))
  | .tup xs => ∀ vs p, XCs K ι H xs vs → H p = none → Q (.ref p) (upd H p (.tup vs))
def Qf (b : Bi) (Q : VK) : VK := fun v H => match b with
  | .frz => Q v H ∨ ∃ a u, v = .ref a ∧ H a = some u ∧ Mut (some u) ∧ ∀ o, Q v (upd H a (.frz o u))
  | _ => Q v H
theorem pe_b {X : Cx} {e : Expr} {t : TE} (b : Bi) (h : PE X e t) : PE X e (fun σ H Q => t σ H (Qf b Q)) := by
  cases b with
  | frz =>
    refine ⟨fun pins s σ H Q I q => thn (h.run pins s σ H _ I q) fun v s1 ⟨x, H1, I1, r, q⟩ => ?_⟩
    rcases q with q | ⟨a, u, rfl, ha, mu, q⟩
    · exact ⟨x, H1, I1, r, q⟩
    · obtain ⟨od, I2⟩ := I1.lock ha mu
      exact ⟨_, _, I2, r, q od⟩
  | ref => exact h
  | own => exact h
section
variable {K : PySem.W.Frag} {ι : Io} {H : Hp} {S : Sg}
theorem allD_FDs {xs : List Mv} {ds : List PyData} {vs : List V} (h : XCs K ι H xs vs) (e : allD xs = some ds) : FDs K H ds vs := by
  induction h generalizing ds with
  | nil => cases e; exact .nil
  | @cons x v xs vs r t ih =>
    cases x with
    | d y =>
      simp only [allD, Option.map_eq_some_iff] at e
      obtain ⟨r', e1, rfl⟩ := e
      exact .cons r.2 (ih e1)
    | ref i => cases e
    | _ => cases e
/-- something fresh beside the store is taken into it -/
theorem Rl.adopt (h : Rl K ι S H) {p : Addr} {b : Bool} {o : Mo} (hp : H p ≠ none) (hq : ∀ q ∈ ι, q.2 ≠ p) (hu : OV K (ι ++ [(b, p)]) H p o) : Rl K (ι ++ [(b, p)]) (S ++ [(b, o)]) H := by
  refine ⟨by simp [h.flag], ?_, fun q hq2 => ?_, fun i c w a e1 e2 => ?_⟩
  · rw [List.map_append]
    refine List.nodup_append.mpr ⟨h.nd, by simp, fun x hx y hy e => ?_⟩
    have hy' : y = p := by simpa using hy
    obtain ⟨q, hq2, rfl⟩ := List.mem_map.mp hx
    exact hq q hq2 (e.trans hy')
  · rcases List.mem_append.mp hq2 with hq2 | hq2
    · exact h.live q hq2
    · have : q = (b, p) := by simpa using hq2
      rw [this]; exact hp
  · by_cases hi : i < S.length
    · rw [List.getElem?_append_left hi] at e1
      rw [List.getElem?_append_left (by rw [h.len]; exact hi)] at e2
      exact OV.grown ⟨_, rfl⟩ (Grow.refl H) rfl (h.cell i c w a e1 e2)
    · have hlt := (List.getElem?_eq_some_iff.mp e1).1
      have hl : (S ++ [(b, o)]).length = S.length + 1 := by simp
      have ei : i = S.length := by omega
      subst ei
      rw [List.getElem?_append_right (Nat.le_refl _)] at e1
      rw [List.getElem?_append_right (by rw [h.len]; exact Nat.le_refl _), h.len] at e2
      simp at e1 e2
      obtain ⟨rfl, rfl⟩ := e1
      obtain ⟨_, rfl⟩ := e2
      exact hu
theorem last_at {ι : Io} {x : Bool × Addr} {n : Nat} (h : ι.length = n) : (ι ++ [x])[n]? = some x := by
  subst h
  rw [List.getElem?_append_right (Nat.le_refl _), Nat.sub_self]; rfl
/-- what bear tells of a list that lies beside the store; ahead (ι0, H0) it was not there -/
theorem bear_lst {W : WX} {σ : L2.St} {Q : VK} {b : Bi} {xs : List Mv} {vs : List V} {p : Addr} {ι0 : Io} {H0 : Hp} (s0 : Sub ι0 H0 ι H) (h0 : H0 p = none) (hr : Rl K ι S H) (hp : H p = some (.lst vs)) (hq : ∀ q ∈ ι, q.2 ≠ p) (hx : XCs K ι H xs vs)
    (h : Post (XV K) K W ι0 σ H0 Q (bear b (.lst xs) S)) : Qf b Q (.ref p) H := by
  cases b with
  | frz =>
    refine .inr ⟨p, _, rfl, hp, trivial, fun o => ?_⟩
    simp only [bear] at h
    cases e : allD xs with
    | none => rw [e] at h; exact h.elim
    | some ds =>
      rw [e] at h
      have r1 := hr.aside (u := .frz o (.lst vs)) hp trivial hq
      exact h _ _ _ (s0.again h0 hp) r1 (.lst (.inl ⟨o, upd_same⟩) (FDs.mono (Grow.write hp trivial) (allD_FDs hx e)))
  | ref =>
    have r1 := hr.adopt (b := false) (o := .lst xs) (by rw [hp]; exact fun z => nomatch z) hq ⟨vs, hp, XCs.grown ⟨_, rfl⟩ (Grow.refl H) hx⟩
    exact h _ _ _ (s0.cell h0) r1 ⟨p, last_at hr.len, rfl⟩
  | own =>
    have r1 := hr.adopt (b := true) (o := .lst xs) (by rw [hp]; exact fun z => nomatch z) hq ⟨vs, hp, XCs.grown ⟨_, rfl⟩ (Grow.refl H) hx⟩
    exact h _ _ _ (s0.cell h0) r1 ⟨p, last_at hr.len, rfl⟩
theorem bear_raw {W : WX} {σ : L2.St} {Q : VK} {b : Bi} {n : Nw} (hr : Rl K ι S H) (h : Post (XV K) K W ι σ H Q (bear b n S)) : Raw K ι H (Qf b Q) n := by
  cases n with
  | val z =>
    intro w hz
    have q : Q w H := h _ _ _ (Sub.refl _ _) hr hz
    cases b with
    | frz => exact .inl q
    | ref => exact q
    | own => exact q
  | lst xs =>
    intro vs p hx hp
    obtain ⟨r1, s1⟩ := hr.beside (u := .lst vs) hp
    exact bear_lst s1 hp r1 upd_same (fun q hq z => hr.live q hq (by rw [z]; exact hp)) (XCs.mono s1 hx) h
  | tup xs =>
    intro vs p hx hp
    have q : Q (.ref p) (upd H p (.tup vs)) := by
      simp only [bear] at h
      cases e : allD xs with
      | none =>
        rw [e] at h
        obtain ⟨r1, s1⟩ := hr.push (u := .tup vs) (b := false) (o := .tup xs) hp ⟨vs, upd_same, XCs.grown ⟨_, rfl⟩ (Grow.new hp) hx⟩
        exact h _ _ _ s1 r1 ⟨p, last_at hr.len, rfl⟩
      | some ds =>
        rw [e] at h
        obtain ⟨r1, s1⟩ := hr.beside (u := .tup vs) hp
        exact h _ _ _ s1 r1 (.tup (.inl (.inl upd_same)) (FDs.mono s1.grow (allD_FDs hx e)))
    cases b with
    | frz => exact .inl q
    | ref => exact q
    | own => exact q
end

/-! ### names and constants -/
def mVar (i : Nat) : ME := fun ρ S => match ρ[i]? with | some (some x) => .ok x S | _ => .bad
def mC (d : PyData) : ME := fun _ S => .ok (.d d) S
def mK (x : Mv) : ME := fun _ S => .ok x S
section
variable {X : Cx} {W : WX}
theorem pm_var (i : Nat) {x : Str} {pos : Pos} (hN : X.N[i]? = some x := by rfl) (hv : Vis X.env.scope x := by first | exact Or.inl rfl | exact Or.inr (Or.inl rfl) | exact Or.inr (Or.inr rfl)) (hd : (x == ("__debug__" : Str)) = false := by decide)
    (hcd : (x == ("__classdict__" : Str)) = false := by decide) : PM X W (.Name x pos) (mVar i) := by
  refine pe_imp (pe_var hN hv hd hcd) fun σ H Q ⟨ι, S, ρ, hl, hr, h⟩ => ?_
  unfold mVar at h
  cases e : ρ[i]? with
  | none => rw [e] at h; exact h.elim
  | some y =>
    cases y with
    | none => rw [e] at h; exact h.elim
    | some y =>
      rw [e] at h
      obtain ⟨v, e1, r⟩ := hl.2 i y e
      exact ⟨v, e1, h _ _ _ (Sub.refl _ _) hr r⟩
theorem pm_c {e : Expr} {v : V} {d : PyData} (h : PE X e (tC v)) (hd : ∀ H, FD X.K H d v) : PM X W e (mC d) :=
  pe_imp h fun σ H Q ⟨ι, S, ρ, hl, hr, h⟩ => h _ _ _ (Sub.refl _ _) hr (hd H)
theorem pm_int {i : Int} {j : Nat} {pos : Pos} : PM X W (.Constant (.int i) j pos) (mC (.int i)) := pm_c pe_int fun _ => .int i
theorem pm_bl {b : Bool} {j : Nat} {pos : Pos} : PM X W (.Constant (.bool b) j pos) (mC (.bool b)) := pm_c pe_bl fun _ => .bl b
theorem pm_non {j : Nat} {pos : Pos} : PM X W (.Constant .none j pos) (mC .none) := pm_c pe_non fun _ => .non
theorem pm_str {x : Str} {j : Nat} {pos : Pos} : PM X W (.Constant (.str x) j pos) (mC (.str x)) := pm_c pe_str fun _ => .str x
theorem pm_globI {x : Str} {i : Int} {t : Tok} {pos : Pos} (hg : Gl X x) (hm : X.mg x = some (.int i t)) (hd : (x == ("__debug__" : Str)) = false := by decide) : PM X W (.Name x pos) (mC (.int i)) :=
  pm_c (v := .int i) (pe_glob hg hm ⟨t, rfl⟩ hd) fun _ => .int i
theorem pm_globS {x : Str} {i : Str} {t : Tok} {pos : Pos} (hg : Gl X x) (hm : X.mg x = some (.str i t)) (hd : (x == ("__debug__" : Str)) = false := by decide) : PM X W (.Name x pos) (mC (.str i)) :=
  pm_c (v := .str i) (pe_glob hg hm ⟨t, rfl⟩ hd) fun _ => .str i

/-! ### operators -/
def opt {α : Type} (o : Option α) (f : α → Res Mv) : Res Mv := match o with | some z => f z | none => .bad
def mBin (b : Bi) (g : Sg → Mv → Mv → Option Nw) (ma mb : ME) : ME := fun ρ S => (ma ρ S).bind fun x S1 => (mb ρ S1).bind fun y S2 => opt (g S2 x y) fun z => bear b z S2
/-- an operator by values -/
def OpP (X : Cx) (f : Value → Value → Sem Value) (g : Sg → Mv → Mv → Option Nw) : Prop :=
  OpR X f fun v u H Q => ∃ ι S x y z, Rl X.K ι S H ∧ XV X.K ι H x v ∧ XV X.K ι H y u ∧ g S x y = some z ∧ Raw X.K ι H Q z
theorem bin_core {g : Sg → Mv → Mv → Option Nw} {ma mb : ME} {b : Bi} {σ : L2.St} {H : Hp} {Q : VK} (h : tG (XV X.K) X.K W (mBin b g ma mb) σ H Q) :
    tOp (fun v u H Q => ∃ ι S x y z, Rl X.K ι S H ∧ XV X.K ι H x v ∧ XV X.K ι H y u ∧ g S x y = some z ∧ Raw X.K ι H Q z) (tG (XV X.K) X.K W ma) (tG (XV X.K) X.K W mb) σ H (Qf b Q) := by
  obtain ⟨ι, S, ρ, hl, hr, h⟩ := h
  refine ⟨ι, S, ρ, hl, hr, step h fun x v ι1 H1 S1 s1 r1 hx h1 => ?_⟩
  refine ⟨ι1, S1, ρ, hl.mono s1, r1, step h1 fun y u ι2 H2 S2 s2 r2 hy h2 => ?_⟩
  unfold opt at h2
  cases e : g S2 x y with
  | none => rw [e] at h2; exact h2.elim
  | some z =>
    rw [e] at h2
    exact ⟨ι2, S2, x, y, z, r2, hx.mono s2, hy, e, bear_raw r2 h2⟩
theorem pm_bin {op : Operator} {a c : Expr} {g : Sg → Mv → Mv → Option Nw} {ma mc : ME} {pos : Pos} (b : Bi) (o : OpP X (binaryOp op) g) (ha : PM X W a ma) (hc : PM X W c mc) : PM X W (.BinOp a op c pos) (mBin b g ma mc) :=
  pe_imp (pe_b b (pe_op o ha hc)) fun σ H Q h => bin_core h
theorem pm_cmp {op : CmpOp} {a c : Expr} {g : Sg → Mv → Mv → Option Nw} {ma mc : ME} {pos : Pos} (o : OpP X (compareOp op) g) (hm : behindInMarks op c = false) (ha : PM X W a ma) (hc : PM X W c mc) : PM X W (.Compare a [op] [c] pos) (mBin .ref g ma mc) :=
  pe_imp (pe_b .ref (pe_cmpR o ha hc hm)) fun σ H Q h => bin_core h
/-- a value's truth as a result -/
def mTst (m : ME) : MT := fun ρ S => (m ρ S).bind fun x S1 => match x with | .d (.bool b) => .ok b S1 | _ => .bad
theorem pb_cmp {op : CmpOp} {a c : Expr} {g : Sg → Mv → Mv → Option Nw} {ma mc : ME} {pos : Pos} (o : OpP X (compareOp op) g) (hm : behindInMarks op c = false) (ha : PM X W a ma) (hc : PM X W c mc) : PB X W (.Compare a [op] [c] pos) (mTst (mBin .ref g ma mc)) := by
  refine pt_imp (pt_cmpR o ha hc hm) fun σ H Q ⟨ι, S, ρ, hl, hr, h⟩ => ?_
  refine bin_core (b := .ref) (Q := fun x H' => ∃ k, x = .bl k ∧ Q k H') ⟨ι, S, ρ, hl, hr, step h fun x v ι1 H1 S1 s1 r1 hx h1 => ?_⟩
  cases x with
  | d y =>
    cases y with
    | bool k => cases hx; exact ⟨k, rfl, h1 _ _ _ (Sub.refl _ _) r1 rfl⟩
    | _ => exact h1.elim
  | _ => exact h1.elim

/-! ### truth -/
def Mv.seq (S : Sg) : Mv → Option (Bool × List Mv)
  | .d (.list xs) => some (false, xs.map .d)
  | .d (.tuple xs) => some (true, xs.map .d)
  | .ref i => match S[i]? with | some (false, .lst xs) => some (false, xs) | some (false, .tup xs) => some (true, xs) | _ => none
  | .own i => match S[i]? with | some (true, .lst xs) => some (false, xs) | some (true, .tup xs) => some (true, xs) | _ => none
  | _ => none
theorem FDs.xcs {K : PySem.W.Frag} {ι : Io} {H : Hp} : ∀ {ds : List PyData} {vs : List V}, FDs K H ds vs → XCs K ι H (ds.map .d) vs
  | _, _, .nil => .nil
  | _, _, .cons h hs => .cons ⟨rfl, h⟩ (FDs.xcs hs)
theorem Mv.seq_ok {K : PySem.W.Frag} {ι : Io} {S : Sg} {H : Hp} (hr : Rl K ι S H) {x : Mv} {v : V} (hx : XV K ι H x v) {t : Bool} {xs : List Mv} (e : x.seq S = some (t, xs)) :
    ∃ a vs, v = .ref a ∧ (if t = true then SqT K H a vs else PlnL K H a vs) ∧ XCs K ι H xs vs := by
  have cellc : ∀ (b : Bool) (i : Nat) (a : Addr), ι[i]? = some (b, a) → (match S[i]? with | some (c, .lst xs) => if c = b then some (false, xs) else none | some (c, .tup xs) => if c = b then some (true, xs) else none | _ => none) = some (t, xs) →
      ∃ vs, (if t = true then SqT K H a vs else PlnL K H a vs) ∧ XCs K ι H xs vs := by
    intro b i a hi e
    cases q : S[i]? with
    | none => rw [q] at e; cases e
    | some p =>
      obtain ⟨c, o⟩ := p
      rw [q] at e
      cases o with
      | lst ys =>
        by_cases hc : c = b
        · subst hc
          simp at e
          obtain ⟨rfl, rfl⟩ := e
          obtain ⟨vs, h1, h2⟩ := hr.cell i c _ a q hi
          exact ⟨vs, .inl h1, h2⟩
        · simp [hc] at e
      | tup ys =>
        by_cases hc : c = b
        · subst hc
          simp at e
          obtain ⟨rfl, rfl⟩ := e
          obtain ⟨vs, h1, h2⟩ := hr.cell i c _ a q hi
          exact ⟨vs, .inl (.inl h1), h2⟩
        · simp [hc] at e
      | dct _ => cases e
      | ins _ _ => cases e
      | gone => cases e
  cases x with
  | d y =>
    cases y with
    | list ds =>
      cases hx with
      | lst h hs =>
        cases e
        exact ⟨_, _, rfl, .inr h, FDs.xcs hs⟩
    | tuple ds =>
      cases hx with
      | tup h hs =>
        cases e
        exact ⟨_, _, rfl, h, FDs.xcs hs⟩
    | _ => cases e
  | ref i =>
    obtain ⟨a, hi, rfl⟩ := hx
    obtain ⟨vs, h1, h2⟩ := cellc false i a hi (by
      simp only [Mv.seq] at e
      rw [← e]
      cases S[i]? with
      | none => rfl
      | some p => obtain ⟨c, o⟩ := p; cases o <;> cases c <;> rfl)
    exact ⟨a, vs, rfl, h1, h2⟩
  | own i =>
    obtain ⟨a, hi, rfl⟩ := hx
    obtain ⟨vs, h1, h2⟩ := cellc true i a hi (by
      simp only [Mv.seq] at e
      rw [← e]
      cases S[i]? with
      | none => rfl
      | some p => obtain ⟨c, o⟩ := p; cases o <;> cases c <;> rfl)
    exact ⟨a, vs, rfl, h1, h2⟩
  | _ => cases e
def Mv.truth (S : Sg) (x : Mv) : Option Bool :=
  match x with
  | .d .none => some false
  | .d (.bool b) => some b
  | .d (.int i) => some (i != 0)
  | .d (.str y) => if y.length ≤ sizeLine then some ((y.length : Int) != 0) else none
  | .d (.list xs) => some (!xs.isEmpty)
  | .d (.tuple xs) => some (!xs.isEmpty)
  | x => (x.seq S).map fun q => !q.2.isEmpty
theorem Paired.isEmpty {α β : Type} {F : α → β → Prop} {xs : List α} {ys : List β} (h : Paired F xs ys) : xs.isEmpty = ys.isEmpty := by
  cases h <;> rfl
theorem Mv.truth_ok {K : PySem.W.Frag} {ι : Io} {S : Sg} {H : Hp} (hr : Rl K ι S H) {x : Mv} {v : V} (hx : XV K ι H x v) {k : Bool} (e : x.truth S = some k) : TruV K v H k := by
  have sq : ∀ t xs, x.seq S = some (t, xs) → k = !xs.isEmpty → TruV K v H k := by
    intro t xs e1 e2
    obtain ⟨a, vs, rfl, h1, h2⟩ := Mv.seq_ok hr hx e1
    cases t with
    | true => exact .inr (.inl ⟨vs, h1, by rw [e2, Paired.isEmpty h2]⟩)
    | false => exact .inl ⟨vs, PlnL.sq h1, by rw [e2, Paired.isEmpty h2]⟩
  cases x with
  | d y =>
    cases y with
    | none => cases hx; cases e; rfl
    | bool b => cases hx; cases e; rfl
    | int i => cases hx; cases e; rfl
    | str z =>
      cases hx
      simp only [Mv.truth] at e
      by_cases hz : z.length ≤ sizeLine
      · rw [if_pos hz] at e; cases e; exact ⟨hz, rfl⟩
      · rw [if_neg hz] at e; cases e
    | list xs => exact sq _ _ rfl (by simp only [Mv.truth] at e; cases e; cases xs <;> rfl)
    | tuple xs => exact sq _ _ rfl (by simp only [Mv.truth] at e; cases e; cases xs <;> rfl)
    | dict _ => cases e
  | ref i =>
    simp only [Mv.truth, Option.map_eq_some_iff] at e
    obtain ⟨⟨t, xs⟩, e1, e2⟩ := e
    exact sq t xs e1 e2.symm
  | own i =>
    simp only [Mv.truth, Option.map_eq_some_iff] at e
    obtain ⟨⟨t, xs⟩, e1, e2⟩ := e
    exact sq t xs e1 e2.symm
  | _ => cases e
def mTruth (m : ME) : MT := fun ρ S => (m ρ S).bind fun x S1 => match x.truth S1 with | some k => .ok k S1 | none => .bad
theorem pb_of {e : Expr} {m : ME} (h : PM X W e m) (he : ∀ whole, isTrue e X.env whole = (do let v ← whole; standAt e.pos; holding [v] (truthy v)) := by intro _; rfl) : PB X W e (mTruth m) := by
  refine pt_imp (pt_truth h he) fun σ H Q ⟨ι, S, ρ, hl, hr, h⟩ => ?_
  refine ⟨ι, S, ρ, hl, hr, step h fun x v ι1 H1 S1 s1 r1 hx h1 => ?_⟩
  cases e : x.truth S1 with
  | none => simp only [e] at h1; exact h1.elim
  | some k =>
    simp only [e] at h1
    exact ⟨k, Mv.truth_ok r1 hx e, h1 _ _ _ (Sub.refl _ _) r1 rfl⟩
def mAndB (a b : MT) : MT := fun ρ S => (a ρ S).bind fun k S1 => if k = true then b ρ S1 else .ok false S1
def mOrB (a b : MT) : MT := fun ρ S => (a ρ S).bind fun k S1 => if k = true then .ok true S1 else b ρ S1
def mNotB (a : MT) : MT := fun ρ S => (a ρ S).bind fun k S1 => .ok (!k) S1
theorem pwb {e : Expr} {m : MT} (h : PWB X W e m) : PB X W e m := PW.pt h
theorem pw_andM {a b : Expr} {rest : List Expr} {ma mb : MT} {pos : Pos} (ha : PB X W a ma) (hb : PWB X W (.BoolOp .And (b :: rest) pos) mb) : PWB X W (.BoolOp .And (a :: b :: rest) pos) (mAndB ma mb) := by
  refine pw_imp (pw_and ha hb) fun σ H Q ⟨ι, S, ρ, hl, hr, h⟩ => ?_
  refine ⟨ι, S, ρ, hl, hr, step h fun x v ι1 H1 S1 s1 r1 hx h1 => ?_⟩
  cases hx
  cases x with
  | true => exact iteT ⟨ι1, S1, ρ, hl.mono s1, r1, by simpa using h1⟩
  | false => exact iteF ((show Post RB _ _ _ _ _ _ (.ok false S1) from by simpa using h1) _ _ _ (Sub.refl _ _) r1 rfl)
theorem pw_orM {a b : Expr} {rest : List Expr} {ma mb : MT} {pos : Pos} (ha : PB X W a ma) (hb : PWB X W (.BoolOp .Or (b :: rest) pos) mb) : PWB X W (.BoolOp .Or (a :: b :: rest) pos) (mOrB ma mb) := by
  refine pw_imp (pw_or ha hb) fun σ H Q ⟨ι, S, ρ, hl, hr, h⟩ => ?_
  refine ⟨ι, S, ρ, hl, hr, step h fun x v ι1 H1 S1 s1 r1 hx h1 => ?_⟩
  cases hx
  cases x with
  | true => exact iteT ((show Post RB _ _ _ _ _ _ (.ok true S1) from by simpa using h1) _ _ _ (Sub.refl _ _) r1 rfl)
  | false => exact iteF ⟨ι1, S1, ρ, hl.mono s1, r1, by simpa using h1⟩
theorem pw_andM1 {a : Expr} {ma : MT} {pos : Pos} (ha : PB X W a ma) : PWB X W (.BoolOp .And [a] pos) ma := pw_and1 ha
theorem pw_orM1 {a : Expr} {ma : MT} {pos : Pos} (ha : PB X W a ma) : PWB X W (.BoolOp .Or [a] pos) ma := pw_or1 ha
theorem pb_not {a : Expr} {ma : MT} {pos : Pos} (ha : PB X W a ma) : PB X W (.UnaryOp .Not a pos) (mNotB ma) := by
  refine pt_imp (pt_not ha) fun σ H Q ⟨ι, S, ρ, hl, hr, h⟩ => ?_
  refine ⟨ι, S, ρ, hl, hr, step h fun x v ι1 H1 S1 s1 r1 hx h1 => ?_⟩
  cases hx
  exact h1 _ _ _ (Sub.refl _ _) r1 rfl
/-- and, or, not as values -/
def mAnd (a b : ME) : ME := fun ρ S => (a ρ S).bind fun x S1 => match x.truth S1 with | some true => b ρ S1 | some false => .ok x S1 | none => .bad
def mOr (a b : ME) : ME := fun ρ S => (a ρ S).bind fun x S1 => match x.truth S1 with | some false => b ρ S1 | some true => .ok x S1 | none => .bad
def mNot (a : ME) : ME := fun ρ S => (a ρ S).bind fun x S1 => match x.truth S1 with | some k => .ok (.d (.bool (!k))) S1 | none => .bad
theorem pm_and {a b : Expr} {rest : List Expr} {ma mb : ME} {pos : Pos} (ha : PM X W a ma) (hb : PM X W (.BoolOp .And (b :: rest) pos) mb) : PM X W (.BoolOp .And (a :: b :: rest) pos) (mAnd ma mb) := by
  refine pe_imp (pe_andT ha hb) fun σ H Q ⟨ι, S, ρ, hl, hr, h⟩ => ?_
  refine ⟨ι, S, ρ, hl, hr, step h fun x v ι1 H1 S1 s1 r1 hx h1 => ?_⟩
  cases e : x.truth S1 with
  | none => simp only [e] at h1; exact h1.elim
  | some k =>
    simp only [e] at h1
    refine ⟨k, Mv.truth_ok r1 hx e, ?_⟩
    cases k with
    | true => exact iteT ⟨ι1, S1, ρ, hl.mono s1, r1, h1⟩
    | false => exact iteF (h1 _ _ _ (Sub.refl _ _) r1 hx)
theorem pm_or {a b : Expr} {rest : List Expr} {ma mb : ME} {pos : Pos} (ha : PM X W a ma) (hb : PM X W (.BoolOp .Or (b :: rest) pos) mb) : PM X W (.BoolOp .Or (a :: b :: rest) pos) (mOr ma mb) := by
  refine pe_imp (pe_orT ha hb) fun σ H Q ⟨ι, S, ρ, hl, hr, h⟩ => ?_
  refine ⟨ι, S, ρ, hl, hr, step h fun x v ι1 H1 S1 s1 r1 hx h1 => ?_⟩
  cases e : x.truth S1 with
  | none => simp only [e] at h1; exact h1.elim
  | some k =>
    simp only [e] at h1
    refine ⟨k, Mv.truth_ok r1 hx e, ?_⟩
    cases k with
    | true => exact iteT (h1 _ _ _ (Sub.refl _ _) r1 hx)
    | false => exact iteF ⟨ι1, S1, ρ, hl.mono s1, r1, h1⟩
theorem pm_one {op : BoolOp} {a : Expr} {ma : ME} {pos : Pos} (ha : PM X W a ma) : PM X W (.BoolOp op [a] pos) ma := pe_one ha
theorem pm_not {a : Expr} {ma : ME} {pos : Pos} (ha : PM X W a ma) : PM X W (.UnaryOp .Not a pos) (mNot ma) := by
  refine pe_imp (pe_notT ha) fun σ H Q ⟨ι, S, ρ, hl, hr, h⟩ => ?_
  refine ⟨ι, S, ρ, hl, hr, step h fun x v ι1 H1 S1 s1 r1 hx h1 => ?_⟩
  cases e : x.truth S1 with
  | none => simp only [e] at h1; exact h1.elim
  | some k =>
    simp only [e] at h1
    exact ⟨k, Mv.truth_ok r1 hx e, h1 _ _ _ (Sub.refl _ _) r1 (.bl _)⟩
def mIf (c : MT) (a b : ME) : ME := fun ρ S => (c ρ S).bind fun k S1 => if k = true then a ρ S1 else b ρ S1
theorem pm_if {c a b : Expr} {mc : MT} {ma mb : ME} {pos : Pos} (hc : PB X W c mc) (ha : PM X W a ma) (hb : PM X W b mb) : PM X W (.IfExp c a b pos) (mIf mc ma mb) := by
  refine pe_imp (pe_ifExp hc ha hb) fun σ H Q ⟨ι, S, ρ, hl, hr, h⟩ => ?_
  refine ⟨ι, S, ρ, hl, hr, step h fun x v ι1 H1 S1 s1 r1 hx h1 => ?_⟩
  cases hx
  cases x with
  | true => exact iteT ⟨ι1, S1, ρ, hl.mono s1, r1, by simpa using h1⟩
  | false => exact iteF ⟨ι1, S1, ρ, hl.mono s1, r1, by simpa using h1⟩

/-! ### argument lists, displays -/
def mNil : MA := fun _ S => .ok [] S
def mCons (a : ME) (r : MA) : MA := fun ρ S => (a ρ S).bind fun x S1 => (r ρ S1).bind fun xs S2 => .ok (x :: xs) S2
theorem pl_nil : PL X W [] mNil := pa_imp pa_nil fun σ H Q ⟨ι, S, ρ, hl, hr, h⟩ => h _ _ _ (Sub.refl _ _) hr .nil
theorem pl_cons {e : Expr} {es : List Expr} {m : ME} {ms : MA} (h : PM X W e m) (hs : PL X W es ms) (he : starEach (e :: es) X.env = (false, eval e X.env) :: starEach es X.env := by rfl) : PL X W (e :: es) (mCons m ms) := by
  refine pa_imp (pa_cons h hs he) fun σ H Q ⟨ι, S, ρ, hl, hr, h⟩ => ?_
  refine ⟨ι, S, ρ, hl, hr, step h fun x v ι1 H1 S1 s1 r1 hx h1 => ?_⟩
  refine ⟨ι1, S1, ρ, hl.mono s1, r1, step h1 fun y u ι2 H2 S2 s2 r2 hy h2 => ?_⟩
  exact h2 _ _ _ (Sub.refl _ _) r2 (.cons (hx.mono s2) hy)
theorem Paired_frees {K : PySem.W.Frag} {ι : Io} {H : Hp} {xs : List Mv} {vs : List V} (h : XVs K ι H xs vs) (e : frees xs = true) : XCs K ι H xs vs := by
  induction h with
  | nil => exact .nil
  | cons r t ih =>
    simp only [frees, List.all_cons, Bool.and_eq_true] at e
    exact .cons ⟨e.1, r⟩ (ih e.2)
def mDisp (b : Bi) (tup : Bool) (a : MA) : ME := fun ρ S => (a ρ S).bind fun xs S1 => if frees xs = true ∧ xs.length ≤ sizeLine then bear b (if tup = true then .tup xs else .lst xs) S1 else .bad
theorem pm_lst {es : List Expr} {ms : MA} {pos : Pos} (b : Bi) (h : PL X W es ms) : PM X W (.List es pos) (mDisp b false ms) := by
  refine pe_imp (pe_b b (pe_lst h)) fun σ H Q ⟨ι, S, ρ, hl, hr, h⟩ => ?_
  refine ⟨ι, S, ρ, hl, hr, step h fun x v ι1 H1 S1 s1 r1 hx h1 => ?_⟩
  by_cases hc : frees x = true ∧ x.length ≤ sizeLine
  · rw [if_pos hc] at h1
    exact ⟨by rw [← hx.length]; exact hc.2, fun p hp => bear_raw (n := .lst x) r1 h1 v p (Paired_frees hx hc.1) hp⟩
  · rw [if_neg hc] at h1; exact h1.elim
theorem pm_tup {es : List Expr} {x1 : Nat} {ms : MA} {pos : Pos} (h : PL X W es ms) : PM X W (.Tuple es x1 pos) (mDisp .ref true ms) := by
  refine pe_imp (pe_b .ref (pe_tup h)) fun σ H Q ⟨ι, S, ρ, hl, hr, h⟩ => ?_
  refine ⟨ι, S, ρ, hl, hr, step h fun x v ι1 H1 S1 s1 r1 hx h1 => ?_⟩
  by_cases hc : frees x = true ∧ x.length ≤ sizeLine
  · rw [if_pos hc] at h1
    exact ⟨by rw [← hx.length]; exact hc.2, fun p hp => bear_raw (n := .tup x) r1 h1 v p (Paired_frees hx hc.1) hp⟩
  · rw [if_neg hc] at h1; exact h1.elim
end
end MM
end
section
set_option Elab.async false
set_option linter.all false
set_option maxRecDepth 100000
set_option maxHeartbeats 4000000
set_option autoImplicit false
namespace MM
open PySem PySem.Spec PyProof.Rows L2

/-! ### statements -/
def PostS (K : PySem.W.Frag) (W : WX) (ι : Io) (H : Hp) (D : Ends) : RS → Prop
  | .nx ρ S => ∀ ι' H' σ', Sub ι H ι' H' → Rl K ι' S H' → LR K ι' H' ρ σ' → D.nx σ' H'
  | .rt x S => ∀ ι' H' v, Sub ι H ι' H' → Rl K ι' S H' → XV K ι' H' x v → D.rt v H'
  | .bk ρ S => ∀ ι' H' σ', Sub ι H ι' H' → Rl K ι' S H' → LR K ι' H' ρ σ' → D.bk σ' H'
  | .ct ρ S => ∀ ι' H' σ', Sub ι H ι' H' → Rl K ι' S H' → LR K ι' H' ρ σ' → D.ct σ' H'
  | .exc e ρ S => ∀ ι' H' d σ', Sub ι H ι' H' → Rl K ι' S H' → LR K ι' H' ρ σ' → ExR K ι' H' e d → W e.cls d σ' H'
  | .bad => False
def tS (K : PySem.W.Frag) (W : WX) (m : MS) : TS := fun D σ H => ∃ ι S ρ, LR K ι H ρ σ ∧ Rl K ι S H ∧ PostS K W ι H D (m ρ S)
def PMS (X : Cx) (W : WX) (st : Stmt) (m : MS) : Prop := PS X st (tS X.K W m)
def PMB (X : Cx) (W : WX) (st : List Stmt) (m : MS) : Prop := PSs X st (tS X.K W m)
def Res.go {α : Type} (r : Res α) (ρ : Rho) (f : α → Sg → RS) : RS := match r with | .ok x S => f x S | .exc e S => .exc e ρ S | .bad => .bad
section
variable {K : PySem.W.Frag} {W : WX} {ι ι1 : Io} {H H1 : Hp} {S : Sg} {ρ : Rho} {σ : L2.St} {D D' : Ends}
theorem PostS.sub {r : RS} (s : Sub ι H ι1 H1) (h : PostS K W ι H D r) : PostS K W ι1 H1 D r := by
  cases r with
  | nx ρ S => exact fun ι' H' v s' => h ι' H' v (s.trans s')
  | rt x S => exact fun ι' H' v s' => h ι' H' v (s.trans s')
  | bk ρ S => exact fun ι' H' v s' => h ι' H' v (s.trans s')
  | ct ρ S => exact fun ι' H' v s' => h ι' H' v (s.trans s')
  | exc e ρ S => exact fun ι' H' d v s' => h ι' H' d v (s.trans s')
  | bad => exact h
theorem stepS {α β : Type} {R : Io → Hp → α → β → Prop} {T : β → Hp → Prop} {r : Res α} {f : α → Sg → RS} (hp : PostS K W ι H D (r.go ρ f)) (hl : LR K ι H ρ σ)
    (k : ∀ x v ι1 H1 S1, Sub ι H ι1 H1 → Rl K ι1 S1 H1 → R ι1 H1 x v → PostS K W ι1 H1 D (f x S1) → T v H1) : Post R K W ι σ H T r := by
  cases r with
  | ok x S' => exact fun ι' H' v s r x' => k x v ι' H' S' s r x' (PostS.sub s hp)
  | exc e S' => exact fun ι' H' d s r x => hp ι' H' d σ s r (hl.mono s) x
  | bad => exact hp
end
/-- targets: names, tuples of them -/
abbrev MG := Sg → Mv → Rho → Option Rho
abbrev MGs := Sg → List Mv → Rho → Option Rho
def Off (ts : List Nat) (σ σ' : L2.St) : Prop := σ'.length = σ.length ∧ ∀ j, j ∉ ts → σ'[j]? = σ[j]?
theorem Off.refl (ts : List Nat) (σ : L2.St) : Off ts σ σ := ⟨rfl, fun _ _ => rfl⟩
def PMG (X : Cx) (ts : List Nat) (tg : Expr) (m : MG) : Prop := PG X tg fun v σ H Q => ∃ ι S ρ x ρ', LR X.K ι H ρ σ ∧ Rl X.K ι S H ∧ XV X.K ι H x v ∧ m S x ρ = some ρ' ∧ ∀ σ', LR X.K ι H ρ' σ' → Off ts σ σ' → Q σ' H
def PMGs (X : Cx) (ts : List Nat) (tg : List Expr) (m : MGs) : Prop := PGs X tg fun vs σ H Q => ∃ ι S ρ xs ρ', LR X.K ι H ρ σ ∧ Rl X.K ι S H ∧ XVs X.K ι H xs vs ∧ m S xs ρ = some ρ' ∧ ∀ σ', LR X.K ι H ρ' σ' → Off ts σ σ' → Q σ' H
theorem pg_imp {X : Cx} {e : Expr} {t t' : TG} (h : PG X e t) (i : ∀ v σ H Q, t' v σ H Q → t v σ H Q) : PG X e t' := ⟨fun pins s σ H v u Q I r q => h.run pins s σ H v u Q I r (i _ _ _ _ q)⟩
theorem pgs_imp {X : Cx} {e : List Expr} {t t' : TGs} (h : PGs X e t) (i : ∀ v σ H Q, t' v σ H Q → t v σ H Q) : PGs X e t' := ⟨fun pins s σ H v u Q I r q => h.run pins s σ H v u Q I r (i _ _ _ _ q)⟩
def mgName (i : Nat) : MG := fun _ x ρ => some (ρ.set i (some x))
def mgNil : MGs := fun _ xs ρ => match xs with | [] => some ρ | _ => none
def mgCons (g : MG) (r : MGs) : MGs := fun S xs ρ => match xs with | x :: t => (g S x ρ).bind fun ρ' => r S t ρ' | [] => none
def mgTup (n : Nat) (g : MGs) : MG := fun S x ρ => match x.seq S with | some (_, xs) => if xs.length = n then g S xs ρ else none | none => none
section
variable {X : Cx} {W : WX} {pos : Pos}
theorem pmg_name {i : Nat} {x : Str} (hN : X.N.Nodup) (hi : X.N[i]? = some x) (hx : Loc X.env.scope x) (hf : X.fn x = true ∨ X.env.scope.names.lookup x = some .local := by first | exact .inl rfl | exact .inr rfl | assumption) : PMG X [i] (.Name x pos) (mgName i) :=
  pg_imp (pg_name hN hi hx hf) fun v σ H Q ⟨ι, S, ρ, y, ρ', hl, hr, hx, e, h⟩ => by
    cases e
    exact h _ (hl.set i hx) ⟨List.length_set, fun j hj => List.getElem?_set_ne (fun z => hj (by simp [z]))⟩
theorem pmgs_nil : PMGs X [] [] mgNil := pgs_imp pgs_nil fun v σ H Q ⟨ι, S, ρ, xs, ρ', hl, hr, hx, e, h⟩ => by
  cases hx with
  | nil => cases e; exact ⟨rfl, h _ hl (Off.refl _ _)⟩
  | cons a b => cases e
theorem pmgs_cons {t1 t2 : List Nat} {e : Expr} {es : List Expr} {g : MG} {r : MGs} (h1 : PMG X t1 e g) (h2 : PMGs X t2 es r)
    (hs : (assignEach (e :: es) X.env).map (·.2) = assign e X.env :: (assignEach es X.env).map (·.2) := by rfl) : PMGs X (t1 ++ t2) (e :: es) (mgCons g r) :=
  pgs_imp (pgs_cons h1 h2 hs) fun v σ H Q ⟨ι, S, ρ, xs, ρ', hl, hr, hx, e, h⟩ => by
    cases hx with
    | nil => cases e
    | @cons a b l1 l2 rr t =>
      simp only [mgCons, Option.bind_eq_some_iff] at e
      obtain ⟨ρ1, e1, e2⟩ := e
      exact ⟨b, l2, rfl, ι, S, ρ, a, ρ1, hl, hr, rr, e1, fun σ1 hl1 o1 => ⟨ι, S, ρ1, l1, ρ', hl1, hr, t, e2, fun σ2 hl2 o2 => h σ2 hl2 ⟨o2.1.trans o1.1, fun j hj => (o2.2 j fun z => hj (List.mem_append_right _ z)).trans (o1.2 j fun z => hj (List.mem_append_left _ z))⟩⟩⟩
theorem pg_or {X : Cx} {tg : Expr} {t u : TG} (h : PG X tg t) (h' : PG X tg u) : PG X tg (fun v σ H Q => t v σ H Q ∨ u v σ H Q) := ⟨fun pins s σ H v w Q I r q => by
  rcases q with q | q
  · exact h.run pins s σ H v w Q I r q
  · exact h'.run pins s σ H v w Q I r q⟩
theorem pmg_tup {ts : List Nat} {es : List Expr} {k : Nat} {g : MGs} {n : Nat} (hc : X.calm = true) (h : PMGs X ts es g)
    (hn : (assignEach es X.env).length = n := by rfl) (hst : (assignEach es X.env).findIdx? (·.1) = none := by rfl) : PMG X ts (.Tuple es k pos) (mgTup n g) :=
  pg_imp (pg_or (pg_tup hc h hn hst) (pg_lst hc h hn hst)) fun v σ H Q ⟨ι, S, ρ, x, ρ', hl, hr, hx, e, q⟩ => by
    unfold mgTup at e
    cases e1 : x.seq S with
    | none => rw [e1] at e; cases e
    | some p =>
      obtain ⟨t, xs⟩ := p
      rw [e1] at e
      simp only at e
      by_cases hl2 : xs.length = n
      · rw [if_pos hl2] at e
        obtain ⟨a, vs, rfl, h1, h2⟩ := Mv.seq_ok hr hx e1
        cases t with
        | true => exact .inl ⟨a, vs, rfl, h1, by rw [← h2.length]; exact hl2, ι, S, ρ, xs, ρ', hl, hr, XCs.xv h2, e, q⟩
        | false => exact .inr ⟨a, vs, rfl, PlnL.sq h1, by rw [← h2.length]; exact hl2, ι, S, ρ, xs, ρ', hl, hr, XCs.xv h2, e, q⟩
      · rw [if_neg hl2] at e; cases e

/-! ### simple statements -/
def mSkip : MS := fun ρ S => .nx ρ S
def mBrk : MS := fun ρ S => .bk ρ S
def mCnt : MS := fun ρ S => .ct ρ S
def mExpr (m : ME) : MS := fun ρ S => (m ρ S).go ρ fun _ S1 => .nx ρ S1
def mAsg (m : ME) (g : MG) : MS := fun ρ S => (m ρ S).go ρ fun x S1 => match g S1 x ρ with | some ρ' => .nx ρ' S1 | none => .bad
def mRet (m : ME) : MS := fun ρ S => (m ρ S).go ρ fun x S1 => .rt x S1
def mRetN : MS := fun _ S => .rt (.d .none) S
def mIfS (c : MT) (a b : MS) : MS := fun ρ S => (c ρ S).go ρ fun k S1 => if k = true then a ρ S1 else b ρ S1
def mSeq (a b : MS) : MS := fun ρ S => match a ρ S with | .nx ρ' S' => b ρ' S' | r => r
theorem pms_pass : PMS X W (.Pass pos) mSkip := ps_imp ps_pass fun D σ H ⟨ι, S, ρ, hl, hr, h⟩ => h _ _ _ (Sub.refl _ _) hr hl
theorem pms_brk : PMS X W (.Break pos) mBrk := ps_imp ps_break fun D σ H ⟨ι, S, ρ, hl, hr, h⟩ => h _ _ _ (Sub.refl _ _) hr hl
theorem pms_cnt : PMS X W (.Continue pos) mCnt := ps_imp ps_continue fun D σ H ⟨ι, S, ρ, hl, hr, h⟩ => h _ _ _ (Sub.refl _ _) hr hl
theorem pms_expr {e : Expr} {m : ME} (h : PM X W e m) (hs : swapsWith e none pos.line X.env = pure false := by rfl) : PMS X W (.Expr e pos) (mExpr m) :=
  ps_imp (ps_expr h hs) fun D σ H ⟨ι, S, ρ, hl, hr, h⟩ => ⟨ι, S, ρ, hl, hr, stepS h hl fun x v ι1 H1 S1 s1 r1 hx h1 => h1 _ _ _ (Sub.refl _ _) r1 (hl.mono s1)⟩
theorem asg_core {ts : List Nat} {m : ME} {g : MG} {D : Ends} {σ : L2.St} {H : Hp} (h : tS X.K W (mAsg m g) D σ H) :
    tAsg (tG (XV X.K) X.K W m) (fun v σ H Q => ∃ ι S ρ x ρ', LR X.K ι H ρ σ ∧ Rl X.K ι S H ∧ XV X.K ι H x v ∧ g S x ρ = some ρ' ∧ ∀ σ', LR X.K ι H ρ' σ' → Off ts σ σ' → Q σ' H) D σ H := by
  obtain ⟨ι, S, ρ, hl, hr, h⟩ := h
  refine ⟨ι, S, ρ, hl, hr, stepS h hl fun x v ι1 H1 S1 s1 r1 hx h1 => ?_⟩
  cases e : g S1 x ρ with
  | none => simp only [e] at h1; exact h1.elim
  | some ρ' =>
    simp only [e] at h1
    exact ⟨ι1, S1, ρ, x, ρ', hl.mono s1, r1, hx, e, fun σ' l' _ => h1 _ _ _ (Sub.refl _ _) r1 l'⟩
theorem pms_asg {ts : List Nat} {tg e : Expr} {m : ME} {g : MG} (h : PM X W e m) (hg : PMG X ts tg g) (hs : swapsWithSole [tg] e pos.line X.env = pure false := by rfl) (hw : swappedStores [tg] e X.env = pure none := by rfl)
    (h1 : (assignEach [tg] X.env).map (·.2) = [assign tg X.env] := by rfl) : PMS X W (.Assign [tg] e pos) (mAsg m g) := ps_imp (ps_asg h hg hs hw h1) fun D σ H h => asg_core h
theorem pms_set {i : Nat} {x : Str} {e : Expr} {m : ME} {pos' : Pos} (hN : X.N.Nodup) (hi : X.N[i]? = some x) (hx : Loc X.env.scope x) (h : PM X W e m) (hs : swapsWith e (some (.Name x pos')) pos.line X.env = pure false := by rfl)
    (hf : X.fn x = true ∨ X.env.scope.names.lookup x = some .local := by first | exact .inl rfl | exact .inr rfl | assumption) : PMS X W (.Assign [.Name x pos'] e pos) (mAsg m (mgName i)) := by
  refine ps_imp (ps_set hN hi hx h hs hf) fun D σ H h => ?_
  obtain ⟨ι, S, ρ, hl, hr, h⟩ := h
  refine ⟨ι, S, ρ, hl, hr, stepS h hl fun x v ι1 H1 S1 s1 r1 hx h1 => ?_⟩
  exact h1 _ _ _ (Sub.refl _ _) r1 ((hl.mono s1).set i hx)
theorem pms_ret {e : Expr} {m : ME} (h : PM X W e m) : PMS X W (.Return (some e) pos) (mRet m) :=
  ps_imp (ps_ret h) fun D σ H ⟨ι, S, ρ, hl, hr, h⟩ => ⟨ι, S, ρ, hl, hr, stepS h hl fun x v ι1 H1 S1 s1 r1 hx h1 => h1 _ _ _ (Sub.refl _ _) r1 hx⟩
theorem pms_retN : PMS X W (.Return none pos) mRetN := ps_imp ps_retN fun D σ H ⟨ι, S, ρ, hl, hr, h⟩ => h _ _ _ (Sub.refl _ _) hr .non
theorem pmb_nil : PMB X W [] mSkip := pss_imp pss_nil fun D σ H ⟨ι, S, ρ, hl, hr, h⟩ => h _ _ _ (Sub.refl _ _) hr hl
theorem pmb_one {st : Stmt} {m : MS} (h : PMS X W st m) : PMB X W [st] m := pss_one h
theorem pmb_cons {st : Stmt} {rest : List Stmt} {a b : MS} (h1 : PMS X W st a) (h2 : PMB X W rest b) : PMB X W (st :: rest) (mSeq a b) := by
  refine pss_imp (pss_cons h1 h2) fun D σ H ⟨ι, S, ρ, hl, hr, h⟩ => ⟨ι, S, ρ, hl, hr, ?_⟩
  unfold mSeq at h
  cases e : a ρ S with
  | nx ρ' S' => rw [e] at h; exact fun ι' H' σ' s r l => ⟨ι', S', ρ', l, r, h.sub s⟩
  | rt x S' => rw [e] at h; exact h
  | bk x S' => rw [e] at h; exact h
  | ct x S' => rw [e] at h; exact h
  | exc x y S' => rw [e] at h; exact h
  | bad => rw [e] at h; exact h
theorem pms_if {c : Expr} {a b : List Stmt} {mc : MT} {ma mb : MS} (hc : PB X W c mc) (ha : PMB X W a ma) (hb : PMB X W b mb) : PMS X W (.If c a b pos) (mIfS mc ma mb) := by
  refine ps_imp (ps_if hc ha hb) fun D σ H ⟨ι, S, ρ, hl, hr, h⟩ => ?_
  refine ⟨ι, S, ρ, hl, hr, stepS h hl fun x v ι1 H1 S1 s1 r1 hx h1 => ?_⟩
  cases hx
  cases x with
  | true => exact iteT ⟨ι1, S1, ρ, hl.mono s1, r1, by simpa using h1⟩
  | false => exact iteF ⟨ι1, S1, ρ, hl.mono s1, r1, by simpa using h1⟩
end

/-! ### a frame's own list is frozen -/
def fz (x : Mv) (S : Sg) : Res Mv :=
  match x with
  | .own i => match S[i]? with
    | some (true, .lst xs) => match allD xs with | some ds => .ok (.d (.list ds)) (S.set i (true, .gone)) | none => .bad
    | _ => .bad
  | x => .ok x S
def mFz (m : ME) : ME := fun ρ S => (m ρ S).bind fz
theorem pm_fz {X : Cx} {W : WX} {e : Expr} {m : ME} (h : PM X W e m) : PM X W e (mFz m) := by
  refine pe_imp (pe_b .frz h) fun σ H Q ⟨ι, S, ρ, hl, hr, h⟩ => ⟨ι, S, ρ, hl, hr, step h fun x v ι1 H1 S1 s1 r1 hx h1 => ?_⟩
  cases x with
  | own i =>
    obtain ⟨a, hi, rfl⟩ := hx
    simp only [fz] at h1
    cases e : S1[i]? with
    | none => simp only [e] at h1; exact h1.elim
    | some p =>
      obtain ⟨b, o⟩ := p
      simp only [e] at h1
      cases b with
      | false => exact h1.elim
      | true =>
        cases o with
        | lst xs =>
          simp only at h1
          cases e2 : allD xs with
          | none => simp only [e2] at h1; exact h1.elim
          | some ds =>
            simp only [e2] at h1
            obtain ⟨vs, hp, hx⟩ := r1.cell i true _ a e hi
            refine .inr ⟨a, _, rfl, hp, trivial, fun o => ?_⟩
            obtain ⟨r2, s2⟩ := r1.put (u := .frz o (.lst vs)) (o := .gone) ⟨_, e⟩ hi hp trivial trivial
            exact h1 _ _ _ s2 r2 (.lst (.inl ⟨o, upd_same⟩) (FDs.mono s2.grow (allD_FDs hx e2)))
        | _ => exact h1.elim
  | _ => exact .inl (h1 _ _ _ (Sub.refl _ _) r1 hx)

/-! ### defs -/
def trim (n : Nat) (S : Sg) : Sg := if (S.drop n).all (·.1) = true then S.take n else S
def exFree (e : Ex) : Bool := match e.fs with | none => true | some l => l.all (·.2.free)
def fin (n : Nat) : RS → Res Mv
  | .nx _ S => .ok (.d .none) (trim n S)
  | .rt x S => if x.free = true then .ok x (trim n S) else .bad
  | .exc e _ S => if exFree e = true then .exc e (trim n S) else .bad
  | _ => .bad
def fnM (n : Nat) (m : MS) : List Mv → Sg → Res Mv := fun xs S => fin S.length (m (xs.map some ++ List.replicate (n - xs.length) none) S)
def spM (K : PySem.W.Frag) (n : Nat) (m : List Mv → Sg → Res Mv) : Sp := fun vs H Q E => ∃ ι S xs, XCs K ι H xs vs ∧ xs.length = n ∧ Rl K ι S H ∧ Post (XV K) K (fun c d _ H => E c d H) ι [] H Q (m xs S)
/-- a def's promise, called where no repr runs -/
structure FnM (P : Program) (w : World) (K : PySem.W.Frag) (mg : Str → Option Value) (base : Heap) (k : Nat) (f : Addr) (fd : FuncData) (ps : List Str) (m : List Mv → Sg → Res Mv) : Prop where
  run : ∀ (A : Around) (outer : List Env) (s : Shared) (H : Hp) (args : Args) (us : List Value) (vs : List V) (Q : VK) (E : XK), Room k A → A.guards = some [] → Env0 P w K mg base A outer s H → BindsTo s fd args (ps.zip us) → Vals vs us →
    spM K ps.length m vs H Q E → codeAny (model P w) A (.call (.ref f) args) (CR (L2.CX P w) outer P w H s Q E) s
theorem FnM.mono {P : Program} {w : World} {K : PySem.W.Frag} {mg : Str → Option Value} {base : Heap} {j k : Nat} {f : Addr} {fd : FuncData} {ps : List Str} {m : List Mv → Sg → Res Mv} (F : FnM P w K mg base j f fd ps m) (h : j ≤ k) : FnM P w K mg base k f fd ps m :=
  ⟨fun A outer s H args us vs Q E hr => F.run A outer s H args us vs Q E (hr.mono h)⟩
section
variable {K : PySem.W.Frag} {ι ι1 : Io} {H H1 : Hp} {S S1 : Sg}
theorem trim_ok (hr : Rl K ι S H) (s : Sub ι H ι1 H1) (r1 : Rl K ι1 S1 H1) : ∃ ι2, Sub ι H ι2 H1 ∧ Rl K ι2 (trim S.length S1) H1 ∧ (∀ x v, x.free = true → XV K ι1 H1 x v → XV K ι2 H1 x v) := by
  unfold trim
  by_cases c : (S1.drop S.length).all (·.1) = true
  · rw [if_pos c]
    obtain ⟨t, rfl, _⟩ := s.pre
    have hl : S.length ≤ S1.length := by
      have := r1.len
      rw [List.length_append, hr.len] at this
      omega
    have e : S1.take S.length ++ S1.drop S.length = S1 := List.take_append_drop _ _
    have hlen : ι.length = (S1.take S.length).length := by rw [List.length_take, hr.len]; omega
    have hT : ∀ p ∈ S1.drop S.length, p.1 = true := fun p hp => List.all_eq_true.mp c p hp
    rw [← e] at r1
    have r2 := Rl.trim r1 hlen hT
    refine ⟨ι, Sub.same s.grow s.keep s.live, r2, fun x v hf hx => XV.trim (t := t) (fun p hp => ?_) hf hx⟩
    have hf2 : ι.map (·.1) = (S1.take S.length).map (·.1) ∧ t.map (·.1) = (S1.drop S.length).map (·.1) := by
      have e := r1.flag
      rw [List.map_append, List.map_append] at e
      exact List.append_inj e (by simpa using hlen)
    have : p.1 ∈ (S1.drop S.length).map (·.1) := by rw [← hf2.2]; exact List.mem_map_of_mem hp
    obtain ⟨q, hq, e⟩ := List.mem_map.mp this
    rw [← e]; exact hT q hq
  · rw [if_neg c]
    exact ⟨ι1, s, r1, fun _ _ _ h => h⟩
theorem lr_start {xs : List Mv} {vs : List V} (h : XCs K ι H xs vs) (n : Nat) : LR K ι H (xs.map some ++ List.replicate (n - xs.length) none) (vs.map some ++ List.replicate (n - vs.length) none) := by
  have hl := h.length
  refine ⟨by simp [hl], fun i x e => ?_⟩
  by_cases hi : i < xs.length
  · rw [List.getElem?_append_left (by simpa using hi), List.getElem?_map] at e
    cases q : xs[i]? with
    | none => rw [q] at e; cases e
    | some y =>
      rw [q] at e
      cases e
      have get : ∀ {xs : List Mv} {vs : List V} {i : Nat} {x : Mv}, XCs K ι H xs vs → xs[i]? = some x → ∃ v, vs[i]? = some v ∧ XC K ι H x v := by
        intro xs vs i x h
        induction h generalizing i with
        | nil => intro e; cases e
        | cons r t ih =>
          cases i with
          | zero => intro e; cases e; exact ⟨_, rfl, r⟩
          | succ i => intro e; exact ih e
      obtain ⟨v, e1, r⟩ := get h q
      refine ⟨v, ?_, r.2⟩
      rw [List.getElem?_append_left (by simpa [← hl] using hi), List.getElem?_map, e1]; rfl
  · rw [List.getElem?_append_right (by simpa using hi)] at e
    have := List.mem_of_getElem? e
    have := (List.mem_replicate.mp this).2
    cases this
end
section
variable {P : Program} {w : World} {K : PySem.W.Frag} {mg : Str → Option Value} {base : Heap}
/-- from a body's mirror to the frame's end -/
theorem body_end {X : Cx} {k n : Nat} {m : MS} {xs : List Mv} {vs : List V} {ι : Io} {S : Sg} {H : Hp} {Q : VK} {E : XK} (hx : XCs X.K ι H xs vs) (hR : Rl X.K ι S H)
    (h : Post (XV X.K) X.K (fun c d _ H => E c d H) ι [] H Q (fnM n m xs S)) : tS X.K (fun c d _ H => E c d H) m { nx := fun _ H' => Q .non H', rt := Q } (vs.map some ++ List.replicate (n - vs.length) none) H := by
  refine ⟨ι, S, _, lr_start hx n, hR, ?_⟩
  unfold fnM at h
  generalize (xs.map some ++ List.replicate (n - xs.length) none) = ρ at h ⊢
  cases e : m ρ S with
  | nx ρ' S' =>
    rw [e] at h
    intro ι1 H1 σ' s1 r1 l1
    obtain ⟨ι2, s2, r2, _⟩ := trim_ok hR s1 r1
    exact h _ _ _ s2 r2 .non
  | rt y S' =>
    rw [e] at h
    intro ι1 H1 v s1 r1 hy
    simp only [fin] at h
    by_cases c : y.free = true
    · rw [if_pos c] at h
      obtain ⟨ι2, s2, r2, tr⟩ := trim_ok hR s1 r1
      exact h _ _ _ s2 r2 (tr _ _ c hy)
    · rw [if_neg c] at h; exact h.elim
  | bk ρ' S' => rw [e] at h; exact h.elim
  | ct ρ' S' => rw [e] at h; exact h.elim
  | exc ex ρ' S' =>
    rw [e] at h
    intro ι1 H1 d σ' s1 r1 l1 hy
    simp only [fin] at h
    by_cases c : exFree ex = true
    · rw [if_pos c] at h
      obtain ⟨ι2, s2, r2, tr⟩ := trim_ok hR s1 r1
      refine h _ _ _ s2 r2 ?_
      unfold ExR at hy ⊢
      unfold exFree at c
      cases e3 : ex.fs with
      | none => trivial
      | some l =>
        rw [e3] at hy c
        obtain ⟨dd, kv, h1, h2, h3⟩ := hy
        refine ⟨dd, kv, h1, h2, ?_⟩
        clear e3 h1 h2 e h
        simp only at c
        induction h3 with
        | nil => exact .nil
        | cons r t ih =>
          simp only [List.all_cons, Bool.and_eq_true] at c
          exact .cons ⟨r.1, tr _ _ c.1 r.2⟩ (ih c.2)
    · rw [if_neg c] at h; exact h.elim
  | bad => rw [e] at h; exact h.elim
theorem fn_m {x qual : Str} {st : Stmt} {f : Addr} {fd : FuncData} {N ps : List Str} {k : Nat} {m : MS} (F : Fun K x qual st f fd) (Sc : FnScope N ps (defScope st))
    (hb : ∀ (cdv : Value) (A : Around) (outer : List Env) (s : Shared) (H : Hp) (E : XK), Room k (A.deeper (envOfC qual (defScope st) s.heap.objs.size f cdv)) → (A.deeper (envOfC qual (defScope st) s.heap.objs.size f cdv)).guards = some [] →
      Takes (cxOf (L2.CX P w) P w K mg base N qual (defScope st) f cdv A outer s H E) (fun c d _ H => E c d H) →
      PassesOwn (model P w) (A.deeper (envOfC qual (defScope st) s.heap.objs.size f cdv)) (envOfC qual (defScope st) s.heap.objs.size f cdv) (cxOf (L2.CX P w) P w K mg base N qual (defScope st) f cdv A outer s H E).xe →
      PMB (cxOf (L2.CX P w) P w K mg base N qual (defScope st) f cdv A outer s H E) (fun c d _ H => E c d H) (defBody st) m) : FnM P w K mg base (k + 1) f fd ps (fnM N.length m) := by
  obtain ⟨oc, od, kV, doc, pm, an, cdv, ct, osl, rfl, lk, hcd⟩ := F.ex
  refine ⟨fun A outer s H args us vs Q E room gds ent bnd rel want => ?_⟩
  obtain ⟨ι, S, xs, hx, hlen, hR, want⟩ := want
  have hlv : vs.length = ps.length := by rw [← hx.length]; exact hlen
  have kin : K.In s.heap := ent.mod.kin.keeps fun b o e => (ent.bs b o e).1
  have lim : s.heap.NoLimit := ent.mod.nolimit.keeps fun b o e => (ent.bs b o e).1
  have places : ∀ y ∈ ps.zip us, (defScope st).names.lookup y.1 = some .local ∨ ((defScope st).names.lookup y.1 = some .cell ∧ ((cellsFrom (s.heap.objs.size + 1) (defScope st).names []).lookup y.1).isSome = true) := by
    rintro ⟨n, v⟩ hy
    rcases Sc.par n (List.of_mem_zip hy).1 with q | q
    · exact .inl q
    · exact .inr ⟨q, PySem.W.cellsFrom_some _ _ _ (.inl q)⟩
  refine codeAny_call_function room.depth (kin _ _ lk) rfl Sc.co Sc.gen rfl (PySem.W.codeRec_of kin hcd) (bnd _ _ _ _ ?_)
  refine wpAny_newFunctionEnv_cells Sc.kind places fun env he s1 begun => ?_
  subst he
  refine ⟨lim.keeps begun.toInCall.keep, codeAny_func ?_⟩
  have I := inv_start (CX := L2.CX P w) (E := E) (cd := cdv) (qual := qual) (f := f) Sc room.hd ent hlv rel begun
  have body := hb cdv A outer s H E (room.deeper _) gds (takes_of (X := cxOf (L2.CX P w) P w K mg base N qual (defScope st) f cdv A outer s H E) rfl rfl rfl rfl) (passes_of (X := cxOf (L2.CX P w) P w K mg base N qual (defScope st) f cdv A outer s H E) rfl)
  refine wpAny_mono (body.run [] s1 (start N vs) H _ I (body_end (X := cxOf (L2.CX P w) P w K mg base N qual (defScope st) f cdv A outer s H E) (k := k) hx hR want)) (fun fl s' got => ?_) fun e s' got => got
  cases fl with
  | ret u => exact let ⟨v, _, H', J, rv, q⟩ := got; ⟨v, H', J.os, J.bare, J.base, J.hok, rv, q⟩
  | next => exact let ⟨_, H', J, q⟩ := got; ⟨V.non, H', J.os, J.bare, J.base, J.hok, rfl, q⟩
  | brk => exact let ⟨_, _, _, q⟩ := got; False.elim q
  | cont => exact let ⟨_, _, _, q⟩ := got; False.elim q
end
/-- calls of a def by its name -/
def mCall (n : Nat) (f : List Mv → Sg → Res Mv) (ds : List Mv) (a : MA) : ME := fun ρ S => (a ρ S).bind fun xs S1 => if frees xs = true ∧ (xs ++ ds).length = n then f (xs ++ ds) S1 else .bad
section
variable {X : Cx} {W : WX} {k : Nat} {f : Addr} {fd : FuncData} {ps : List Str} {m : List Mv → Sg → Res Mv} {x : Str} {p pos : Pos} {e : Expr} {es : List Expr} {ms : MA} {ds : List Mv} {dvs : List V} {dus : List Value}
theorem Paired.append {α β : Type} {F : α → β → Prop} {xs xs' : List α} {ys ys' : List β} (h : Paired F xs ys) (h' : Paired F xs' ys') : Paired F (xs ++ xs') (ys ++ ys') := by
  induction h with
  | nil => exact h'
  | cons r t ih => exact .cons r ih
/-- the callee runs -/
theorem run_m {pins : List (Addr × Obj)} {σ : L2.St} {H : Hp} {s : Shared} {Q : VK} {us : List Value} {vs : List V} {args : Args} (F : FnM X.prog X.w X.K X.mg X.base k f fd ps m) (hr : Room k X.A) (gds : X.A.guards = some []) (tk : Takes X W) (hb : BindsTo s fd args (ps.zip us))
    (I : Inv X pins σ H s) (r : Vals vs us) (h : spM X.K ps.length m vs H Q (WE W σ)) : codeAny (model X.prog X.w) X.A (.call (.ref f) args) (fun r s' => match r with | .ok (.ret u) => EP X pins σ Q u s' | .ok _ => False | .error e => X.xe e s') s := by
  refine codeAny_mono (F.run X.A X.stack s H args us vs Q (WE W σ) hr gds I.env0 hb r h) fun res s' got => ?_
  cases res with
  | error e => exact passAt tk σ pins H s e s' I got
  | ok fl =>
    cases fl with
    | ret u => exact I.after got
    | next => exact got
    | brk => exact got
    | cont => exact got
theorem pm_call {n : Nat} (F : FnM X.prog X.w X.K X.mg X.base k f fd ps m) (hr : Room k X.A) (gds : X.A.guards = some []) (tk : Takes X W) (hg : Gl X x) (hm : X.mg x = some (.ref f)) (hk : PySem.W.keepIn X.K (.ref f) = true) (hb : L2.Binds X.K fd ps dus) (hd : Vals dvs dus)
    (hds : ∀ ι H, XCs X.K ι H ds dvs) (ha : PL X W (e :: es) ms) (hn : ps.length = n := by rfl) (hdb : (x == ("__debug__" : Str)) = false := by decide) (he : starEach (e :: es) X.env = (false, eval e X.env) :: starEach es X.env := by rfl) (hpl : (backTo pos (starEach es X.env)).any (·.1) = false := by rfl) :
    PM X W (.Call (.Name x p) (e :: es) [] pos) (mCall n m ds ms) := by
  subst hn
  refine ⟨fun pins s σ H Q I ⟨ι, S, ρ, hl, hR, h⟩ => ?_⟩
  refine wpAny_Call_Name_kw (ld_glob I hg hm ?_ hdb)
  have want : tG (XVs X.K) X.K W ms σ H fun vs H1 => spM X.K ps.length m (vs ++ dvs) H1 Q (WE W σ) := ⟨ι, S, ρ, hl, hR, step h fun xs vs ι1 H1 S1 s1 r1 hx h1 => by
    by_cases c : frees xs = true ∧ (xs ++ ds).length = ps.length
    · rw [if_pos c] at h1
      refine ⟨ι1, S1, xs ++ ds, Paired.append (Paired_frees hx c.1) (hds _ _), c.2, r1, ?_⟩
      cases e : m (xs ++ ds) S1 with
      | ok y S' => rw [e] at h1; exact h1
      | exc y S' => rw [e] at h1; exact h1
      | bad => rw [e] at h1; exact h1
    · rw [if_neg c] at h1; exact h1.elim⟩
  refine PySem.W.callWith_K (h₀ := X.base) I.ok.mod.kin hk (thn (ha.run pos pins s σ H _ I want) fun us s1 ⟨vs, H1, I1, r, q⟩ => ⟨I1.kIn, ?_⟩) he hpl
  have rr : Vals (vs ++ dvs) (us ++ dus) := r.append hd
  have hlen : (us ++ dus).length = ps.length := by
    obtain ⟨_, _, xs, hx, hl2, _⟩ := id q
    rw [← rr.length, ← hx.length]; exact hl2
  refine wpAny_call (codeAny_mono (run_m F hr gds tk (hb s1 us I1.kIn hlen) I1 rr q) fun res s' got => ?_)
  cases res with
  | error e => exact got
  | ok fl => cases fl <;> exact got
end
end MM
end
section
set_option Elab.async false
set_option linter.all false
set_option maxRecDepth 100000
set_option maxHeartbeats 4000000
set_option autoImplicit false
namespace MM
open PySem PySem.Spec PyProof.Rows L2

/-! ### while -/
def mWhile (c : MT) (b : MS) : Nat → MS
  | 0 => fun _ _ => .bad
  | n + 1 => fun ρ S => (c ρ S).go ρ fun k S1 => if k = true then (match b ρ S1 with
      | .nx ρ' S' => mWhile c b n ρ' S' | .ct ρ' S' => mWhile c b n ρ' S' | .bk ρ' S' => .nx ρ' S' | r => r) else .nx ρ S1
section
variable {X : Cx} {W : WX} {pos : Pos}
theorem pms_while {c : Expr} {body : List Stmt} {mc : MT} {mb : MS} (n : Nat) (hp : PassesOwn (model X.prog X.w) X.A X.env X.xe) (hc : PB X W c mc) (hb : PMB X W body mb) : PMS X W (.While c body [] pos) (mWhile mc mb n) := by
  refine ps_imp (ps_while hp hc hb) fun D σ H ⟨ι, S, ρ, hl, hr, h⟩ => ?_
  refine ⟨fun n σ H => ∃ ι S ρ, LR X.K ι H ρ σ ∧ Rl X.K ι S H ∧ PostS X.K W ι H D (mWhile mc mb n ρ S), ⟨n, ι, S, ρ, hl, hr, h⟩, fun n σ H hW => ?_⟩
  obtain ⟨ι, S, ρ, hl, hr, h⟩ := hW
  cases n with
  | zero => exact h.elim
  | succ n =>
    refine ⟨ι, S, ρ, hl, hr, stepS h hl fun x v ι1 H1 S1 s1 r1 hx h1 => ?_⟩
    cases hx
    cases x with
    | false => exact iteF ((show PostS _ _ _ _ _ (.nx ρ S1) by simpa using h1) _ _ _ (Sub.refl _ _) r1 (hl.mono s1))
    | true =>
      refine iteT ⟨fun σ H => ∃ ι S ρ, LR X.K ι H ρ σ ∧ Rl X.K ι S H ∧ PostS X.K W ι H D (mWhile mc mb n ρ S), fun σ' H' q => ⟨n, Nat.lt_succ_self n, q⟩, ι1, S1, ρ, hl.mono s1, r1, ?_⟩
      rw [if_pos rfl] at h1
      cases e : mb ρ S1 with
      | nx ρ' S' => rw [e] at h1; exact fun ι' H' σ' s r l => ⟨ι', S', ρ', l, r, h1.sub s⟩
      | ct ρ' S' => rw [e] at h1; exact fun ι' H' σ' s r l => ⟨ι', S', ρ', l, r, h1.sub s⟩
      | bk ρ' S' => rw [e] at h1; exact h1
      | rt ρ' S' => rw [e] at h1; exact h1
      | exc _ ρ' S' => rw [e] at h1; exact h1
      | bad => rw [e] at h1; exact h1

/-! ### what is walked -/
def ItM (K : PySem.W.Frag) (ι : Io) (H : Hp) (xs : List Mv) (J : It) : Prop :=
  ∀ ι1 H1 S1, Sub ι H ι1 H1 → Rl K ι1 S1 H1 → ∀ i, (∀ x, xs[i]? = some x → J.go i H1 ∧ ∀ v H2, J.yld i H1 v H2 → Rl K ι1 S1 H2 ∧ Sub ι1 H1 ι1 H2 ∧ XV K ι1 H2 x v) ∧ (xs.length ≤ i → J.stop i H1)
def PIM (X : Cx) (W : WX) (tg iter : Expr) (m : MA) : Prop := PI X tg iter (tG (ItM X.K) X.K W m)
theorem pi_imp {tg e : Expr} {t t' : TI} (h : PI X tg e t) (i : ∀ σ H Q, t' σ H Q → t σ H Q) : PI X tg e t' := ⟨fun pins s σ H Q I q => h.run pins s σ H Q I (i _ _ _ q)⟩
theorem pi_or {tg e : Expr} {t t' : TI} (h : PI X tg e t) (h' : PI X tg e t') : PI X tg e (fun σ H Q => t σ H Q ∨ t' σ H Q) := ⟨fun pins s σ H Q I q => by
  rcases q with q | q
  · exact h.run pins s σ H Q I q
  · exact h'.run pins s σ H Q I q⟩
theorem ItM.mono {K : PySem.W.Frag} {ι ι1 : Io} {H H1 : Hp} {xs : List Mv} {J : It} (h : ItM K ι H xs J) (s : Sub ι H ι1 H1) : ItM K ι1 H1 xs J := fun ι2 H2 S2 s2 => h ι2 H2 S2 (s.trans s2)
theorem Paired.at {α β : Type} {F : α → β → Prop} {xs : List α} {ys : List β} (h : Paired F xs ys) {i : Nat} {x : α} (e : xs[i]? = some x) : ∃ y, ys[i]? = some y ∧ F x y := by
  induction h generalizing i with
  | nil => cases e
  | cons r t ih =>
    cases i with
    | zero => cases e; exact ⟨_, rfl, r⟩
    | succ i => exact ih e
/-- a text's signs -/
def signs (z : Str) : List Mv := z.cps.toList.map fun c => .d (.str ⟨#[c]⟩)
theorem itm_lst {K : PySem.W.Frag} {ι : Io} {H : Hp} {a : Addr} {vs : List V} {ds : List PyData} (h : FzL K H a vs) (hs : FDs K H ds vs) : ItM K ι H (ds.map .d) (Itl K a) := by
  intro ι1 H1 S1 s r i
  have h1 := (h.mono s.grow).sq
  have p : XCs K ι1 H1 (ds.map .d) vs := FDs.xcs (FDs.mono s.grow hs)
  refine ⟨fun x e => ?_, fun e => ⟨vs, h1, by rw [← p.length]; exact e⟩⟩
  obtain ⟨v, e1, r1⟩ := Paired.at p e
  refine ⟨⟨vs, v, h1, e1⟩, fun v' H2 ⟨e2, q⟩ => ?_⟩
  have e3 := q vs h1
  rw [e1] at e3
  cases e3
  rw [e2]
  exact ⟨r, Sub.refl _ _, r1.2⟩
theorem itm_tup {K : PySem.W.Frag} {ι : Io} {H : Hp} {a : Addr} {vs : List V} {ds : List PyData} (h : SqT K H a vs) (hs : FDs K H ds vs) : ItM K ι H (ds.map .d) (Itt K a) := by
  intro ι1 H1 S1 s r i
  have h1 := SqT_mono s.grow h
  have p : XCs K ι1 H1 (ds.map .d) vs := FDs.xcs (FDs.mono s.grow hs)
  refine ⟨fun x e => ?_, fun e => ⟨vs, h1, by rw [← p.length]; exact e⟩⟩
  obtain ⟨v, e1, r1⟩ := Paired.at p e
  refine ⟨⟨vs, v, h1, e1⟩, fun v' H2 ⟨e2, q⟩ => ?_⟩
  have e3 := q vs h1
  rw [e1] at e3
  cases e3
  rw [e2]
  exact ⟨r, Sub.refl _ _, r1.2⟩
theorem itm_str {K : PySem.W.Frag} {ι : Io} {H : Hp} (z : Str) : ItM K ι H (signs z) (Its z) := by
  intro ι1 H1 S1 s r i
  have hz : (signs z).length = z.cps.size := by simp [signs]
  refine ⟨fun x e => ?_, fun e => by show z.cps.size ≤ i; rw [← hz]; exact e⟩
  have hi : i < z.cps.size := by rw [← hz]; exact (List.getElem?_eq_some_iff.mp e).1
  refine ⟨hi, fun v' H2 ⟨e2, c, e3, e4⟩ => ?_⟩
  rw [e2, e4]
  refine ⟨r, Sub.refl _ _, ?_⟩
  unfold signs at e
  rw [List.getElem?_map, Array.getElem?_toList, e3] at e
  cases e
  exact .str _
def Mv.items (x : Mv) : Option (List Mv) := match x with
  | .d (.list xs) => some (xs.map .d)
  | .d (.tuple xs) => some (xs.map .d)
  | .d (.str z) => some (signs z)
  | _ => none
def mIter (m : ME) : MA := fun ρ S => (m ρ S).bind fun x S1 => match x.items with | some xs => .ok xs S1 | none => .bad
theorem pim_seq {tg e : Expr} {m : ME} (h : PM X W e m) : PIM X W tg e (mIter m) := by
  refine pi_imp (pi_or (pi_list h) (pi_or (pi_tup h) (pi_str h))) fun σ H R ⟨ι, S, ρ, hl, hr, h⟩ => ?_
  cases e : m ρ S with
  | bad => unfold mIter at h; rw [e] at h; exact h.elim
  | exc ex S' =>
    unfold mIter at h; rw [e] at h
    exact .inl ⟨ι, S, ρ, hl, hr, by rw [e]; exact h⟩
  | ok x S1 =>
    have h0 := h
    unfold mIter at h; rw [e] at h
    cases x with
    | d y =>
      cases y with
      | list ds =>
        refine .inl ⟨ι, S, ρ, hl, hr, ?_⟩
        rw [e]
        intro ι1 H1 v s1 r1 hx
        cases hx with
        | lst hf hs => exact ⟨_, rfl, ⟨_, hf.sq⟩, h _ _ _ s1 r1 (itm_lst hf hs)⟩
      | tuple ds =>
        refine .inr (.inl ⟨ι, S, ρ, hl, hr, ?_⟩)
        rw [e]
        intro ι1 H1 v s1 r1 hx
        cases hx with
        | tup hf hs => exact ⟨_, rfl, ⟨_, hf⟩, h _ _ _ s1 r1 (itm_tup hf hs)⟩
      | str z =>
        refine .inr (.inr ⟨ι, S, ρ, hl, hr, ?_⟩)
        rw [e]
        intro ι1 H1 v s1 r1 hx
        cases hx with
        | str z => exact ⟨z, rfl, h _ _ _ s1 r1 (itm_str z)⟩
      | _ => exact h.elim
    | _ => exact h.elim
def rangeL (lo : Int) (n : Nat) : List Mv := (List.range n).map fun i : Nat => .d (.int (lo + i))
theorem itm_rng {K : PySem.W.Frag} {ι : Io} {H : Hp} (lo : Int) (n : Nat) : ItM K ι H (rangeL lo n) (Itr lo n) := by
  intro ι1 H1 S1 s r i
  have hz : (rangeL lo n).length = n := by simp [rangeL]
  refine ⟨fun x e => ?_, fun e => by show n ≤ i; rw [← hz]; exact e⟩
  have hi : i < n := by rw [← hz]; exact (List.getElem?_eq_some_iff.mp e).1
  refine ⟨hi, fun v' H2 ⟨e2, e3⟩ => ?_⟩
  rw [e2, e3]
  refine ⟨r, Sub.refl _ _, ?_⟩
  unfold rangeL at e
  rw [List.getElem?_map, List.getElem?_range hi] at e
  cases e
  exact .int _
noncomputable def mRange1 (a : MA) : MA := fun ρ S => (a ρ S).bind fun xs S1 => match xs with | [.d (.int j)] => @ite _ (-(2 ^ 62) ≤ j ∧ j < 2 ^ 62) (Classical.propDecidable _) (.ok (rangeL 0 j.toNat) S1) .bad | _ => .bad
theorem pim_range1 {tg a : Expr} {ma : MA} {p : Pos} (hg : Gl X "range") (hm : X.mg "range" = none) (ha : PL X W [a] ma) (hs : starEach [a] X.env = [(false, eval a X.env)] := by rfl) : PIM X W tg (.Call (.Name "range" p) [a] [] pos) (mRange1 ma) := by
  refine pi_imp (pi_range1 hg hm ha hs) fun σ H R ⟨ι, S, ρ, hl, hr, h⟩ => ⟨ι, S, ρ, hl, hr, step h fun xs vs ι1 H1 S1 s1 r1 hx h1 => ?_⟩
  cases hx with
  | nil => exact h1.elim
  | @cons x v xs vs r t =>
    cases t with
    | cons r2 t2 => cases x <;> first | exact h1.elim | (rename_i y; cases y <;> exact h1.elim)
    | nil =>
      cases x with
      | d y =>
        cases y with
        | int j =>
          cases r
          simp only at h1
          by_cases c : -(2 ^ 62) ≤ j ∧ j < 2 ^ 62
          · rw [if_pos c] at h1
            exact ⟨j, rfl, c.1, c.2, h1 _ _ _ (Sub.refl _ _) r1 (itm_rng _ _)⟩
          · rw [if_neg c] at h1; exact h1.elim
        | _ => exact h1.elim
      | _ => exact h1.elim
noncomputable def mRange2 (a : MA) : MA := fun ρ S => (a ρ S).bind fun xs S1 => match xs with | [.d (.int i), .d (.int j)] => @ite _ (-(2 ^ 62) ≤ i ∧ i < 2 ^ 62 ∧ -(2 ^ 62) ≤ j ∧ j < 2 ^ 62) (Classical.propDecidable _) (.ok (rangeL i (j - i).toNat) S1) .bad | _ => .bad
theorem pim_range2 {tg a b : Expr} {ma : MA} {p : Pos} (hg : Gl X "range") (hm : X.mg "range" = none) (ha : PL X W [a, b] ma) (hs : starEach [a, b] X.env = [(false, eval a X.env), (false, eval b X.env)] := by rfl) (hs2 : starEach [b] X.env = [(false, eval b X.env)] := by rfl) : PIM X W tg (.Call (.Name "range" p) [a, b] [] pos) (mRange2 ma) := by
  refine pi_imp (pi_range2 hg hm ha hs hs2) fun σ H R ⟨ι, S, ρ, hl, hr, h⟩ => ⟨ι, S, ρ, hl, hr, step h fun xs vs ι1 H1 S1 s1 r1 hx h1 => ?_⟩
  split at h1
  · rename_i i j
    cases hx with
    | cons r t => cases t with
      | cons r2 t2 => cases t2 with
        | nil =>
          cases r; cases r2
          by_cases c : -(2 ^ 62) ≤ i ∧ i < 2 ^ 62 ∧ -(2 ^ 62) ≤ j ∧ j < 2 ^ 62
          · rw [if_pos c] at h1
            exact ⟨i, j, rfl, c, h1 _ _ _ (Sub.refl _ _) r1 (itm_rng _ _)⟩
          · rw [if_neg c] at h1; exact h1.elim
  · exact h1.elim

/-! ### for -/
def mLoop (g : MG) (b : MS) : List Mv → MS
  | [] => fun ρ S => .nx ρ S
  | x :: xs => fun ρ S => match g S x ρ with
    | none => .bad
    | some ρ1 => match b ρ1 S with
      | .nx ρ' S' => mLoop g b xs ρ' S' | .ct ρ' S' => mLoop g b xs ρ' S' | .bk ρ' S' => .nx ρ' S' | r => r
def mFor (mi : MA) (g : MG) (b : MS) : MS := fun ρ S => (mi ρ S).go ρ fun xs S1 => mLoop g b xs ρ S1
theorem drop_at {α : Type} {xs : List α} {i : Nat} {x : α} {r : List α} (e : xs.drop i = x :: r) : xs[i]? = some x ∧ xs.drop (i + 1) = r := by
  have h1 : (xs.drop i)[0]? = some x := by rw [e]; rfl
  rw [List.getElem?_drop] at h1
  refine ⟨by simpa using h1, ?_⟩
  rw [← List.drop_drop, e]; rfl
theorem pms_for {ts : List Nat} {tg iter : Expr} {body : List Stmt} {mi : MA} {g : MG} {mb : MS} (hp : PassesOwn (model X.prog X.w) X.A X.env X.xe) (hc : X.calm = true) (hi : PIM X W tg iter mi) (hg : PMG X ts tg g) (hb : PMB X W body mb)
    (hs : ∀ x, foldedSetIterable iter X.env x = pure x := by intro _; rfl) : PMS X W (.For tg iter body [] pos) (mFor mi g mb) := by
  refine ps_imp (ps_for hp hc hi hg hb hs) fun D σ H ⟨ι, S, ρ, hl, hr, h⟩ => ?_
  refine ⟨ι, S, ρ, hl, hr, stepS h hl fun xs J ι1 H1 S1 s1 r1 hJ h1 => ?_⟩
  refine ⟨fun i n σ H => ∃ ι S ρ, Sub ι1 H1 ι H ∧ LR X.K ι H ρ σ ∧ Rl X.K ι S H ∧ n = xs.length - i ∧ PostS X.K W ι H D (mLoop g mb (xs.drop i) ρ S), ⟨xs.length, ι1, S1, ρ, Sub.refl _ _, hl.mono s1, r1, rfl, h1⟩, fun i n σ H hW => ?_⟩
  clear hl hr h s1 r1 h1
  obtain ⟨ι, S, ρ, s, hl, hr, hn, h⟩ := hW
  cases e : xs.drop i with
  | nil =>
    rw [e] at h
    have : xs.length ≤ i := by
      have := congrArg List.length e
      simp at this; omega
    exact .inl ⟨(hJ ι H S s hr i).2 this, h _ _ _ (Sub.refl _ _) hr hl⟩
  | cons x r =>
    obtain ⟨e1, e2⟩ := drop_at e
    rw [e] at h
    obtain ⟨go, yl⟩ := (hJ ι H S s hr i).1 x e1
    refine .inr ⟨go, fun σ H => ∃ ι S ρ, Sub ι1 H1 ι H ∧ LR X.K ι H ρ σ ∧ Rl X.K ι S H ∧ PostS X.K W ι H D (mLoop g mb r ρ S), fun σ' H' q => ⟨xs.length - (i + 1), ?_, ?_⟩, fun v H2 hy => ?_⟩
    · have := (List.getElem?_eq_some_iff.mp e1).1
      omega
    · obtain ⟨ι', S', ρ', a, b, c, d⟩ := q
      exact ⟨ι', S', ρ', a, b, c, rfl, by rw [e2]; exact d⟩
    · obtain ⟨r2, s2, hx⟩ := yl v H2 hy
      simp only [mLoop] at h
      cases eg : g S x ρ with
      | none => rw [eg] at h; exact h.elim
      | some ρ1 =>
        rw [eg] at h
        refine ⟨ι, S, ρ, x, ρ1, hl.mono s2, r2, hx, eg, fun σ' l' _ => ⟨ι, S, ρ1, l', r2, ?_⟩⟩
        have h := h.sub s2
        simp only at h
        cases eb : mb ρ1 S with
        | nx ρ' S' => rw [eb] at h; exact fun ι' H' σ' s' r l => ⟨ι', S', ρ', (s.trans s2).trans s', l, r, h.sub s'⟩
        | ct ρ' S' => rw [eb] at h; exact fun ι' H' σ' s' r l => ⟨ι', S', ρ', (s.trans s2).trans s', l, r, h.sub s'⟩
        | bk ρ' S' => rw [eb] at h; exact h
        | rt ρ' S' => rw [eb] at h; exact h
        | exc _ ρ' S' => rw [eb] at h; exact h
        | bad => rw [eb] at h; exact h

/-! ### comprehensions -/
abbrev W0 : WX := fun _ _ _ _ => False
def okP {α : Type} (r : Res α) (k : α → Sg → Prop) : Prop := match r with | .ok x S => k x S | _ => False
theorem stepN {α β γ : Type} {R : Io → Hp → α → β → Prop} {K : PySem.W.Frag} {ι : Io} {σ : L2.St} {H : Hp} {T : β → Hp → Prop} {m : Res α} {f : α → Sg → Res γ} {q : γ → Sg → Prop} (hp : okP (m.bind f) q)
    (k : ∀ x v ι1 H1 S1, Sub ι H ι1 H1 → Rl K ι1 S1 H1 → R ι1 H1 x v → okP (f x S1) q → T v H1) : Post R K W0 ι σ H T m := by
  cases m with
  | ok x S' => exact fun ι' H' v s r x' => k x v ι' H' S' s r x' hp
  | exc e S' => exact hp.elim
  | bad => exact hp
def wipeM (ρ : Rho) : List Nat → Rho
  | [] => ρ
  | v :: vs => (wipeM ρ vs).set v none
def lcLoop (g : MG) (tt : MT) (te : ME) (ρ : Rho) : List Mv → List Mv → Sg → Res (List Mv)
  | [], acc, S => .ok acc S
  | x :: xs, acc, S => match g S x ρ with
    | none => .bad
    | some ρ1 => (tt ρ1 S).bind fun k S1 => if k = true then (te ρ1 S1).bind fun y S2 => if y.free = true ∧ acc.length < sizeLine then lcLoop g tt te ρ xs (acc ++ [y]) S2 else .bad else lcLoop g tt te ρ xs acc S1
def Res.nox {α : Type} : Res α → Res α
  | .exc _ _ => .bad
  | r => r
def mLc (b : Bi) (mi : MA) (g : MG) (tt : MT) (te : ME) (vs : List Nat) : ME := fun ρ S => (mi ρ S).bind fun xs S1 => (lcLoop g tt te (wipeM ρ vs) xs [] S1).nox.bind fun acc S2 => bear b (.lst acc) S2
def PTM (X : Cx) (W : WX) (ifs : List Expr) (m : MT) : Prop := PTs X ifs (tG RB X.K W m)
theorem pts_imp {ifs : List Expr} {t t' : TT} (h : PTs X ifs t) (i : ∀ σ H Q, t' σ H Q → t σ H Q) : PTs X ifs t' := ⟨fun pins s σ H Q I q => h.run pins s σ H Q I (i _ _ _ q)⟩
def mYes : MT := fun _ S => .ok true S
theorem ptm_nil : PTM X W [] mYes := pts_imp pts_nil fun σ H Q ⟨ι, S, ρ, hl, hr, h⟩ => h _ _ _ (Sub.refl _ _) hr rfl
theorem ptm_one {c : Expr} {m : MT} (h : PB X W c m) : PTM X W [c] m := pts_one h
theorem lr_wipe {K : PySem.W.Frag} {ι : Io} {H : Hp} {ρ : Rho} {σ : L2.St} (h : LR K ι H ρ σ) : ∀ vs : List Nat, LR K ι H (wipeM ρ vs) (wipe σ vs)
  | [] => h
  | v :: vs => by
    have ih := lr_wipe h vs
    refine ⟨by simp only [wipeM, wipe, List.length_set]; exact ih.1, fun i x e => ?_⟩
    simp only [wipeM] at e
    simp only [wipe]
    by_cases hi : v = i
    · subst hi
      by_cases hl : v < (wipeM ρ vs).length
      · rw [List.getElem?_set_self hl] at e; cases e
      · rw [List.getElem?_eq_none (by rw [List.length_set]; omega)] at e; cases e
    · rw [List.getElem?_set_ne hi] at e ⊢
      exact ih.2 i x e
theorem wipe_get (σ : L2.St) (i : Nat) : ∀ vs : List Nat, (wipe σ vs)[i]? = if i ∈ vs then (if i < σ.length then some none else none) else σ[i]?
  | [] => by simp [wipe]
  | v :: vs => by
    simp only [wipe]
    by_cases hi : v = i
    · subst hi
      by_cases hl : v < σ.length
      · rw [List.getElem?_set_self (by rw [wipe_length]; exact hl)]; simp [hl]
      · rw [List.getElem?_eq_none (by rw [List.length_set, wipe_length]; omega)]; simp [hl]
    · rw [List.getElem?_set_ne hi, wipe_get σ i vs]
      have : (i ∈ v :: vs) ↔ i ∈ vs := ⟨fun z => (List.mem_cons.mp z).resolve_left fun e => hi e.symm, fun z => List.mem_cons_of_mem _ z⟩
      simp only [this]
theorem wipe_off {σ σ' : L2.St} {ts vs : List Nat} (hs : ∀ t ∈ ts, t ∈ vs) (o : Off ts (wipe σ vs) σ') : wipe σ' vs = wipe σ vs := by
  refine List.ext_getElem? fun i => ?_
  have hl : σ'.length = σ.length := by rw [o.1, wipe_length]
  rw [wipe_get, wipe_get, hl]
  by_cases hi : i ∈ vs
  · simp [hi]
  · rw [if_neg hi, if_neg hi]
    rw [o.2 i (fun z => hi (hs i z)), wipe_get, if_neg hi]
theorem lc_coreM {ts vs : List Nat} {mi : MA} {g : MG} {tt : MT} {te : ME} {b : Bi} {σ : L2.St} {H : Hp} {Q : VK} (hs : ∀ t ∈ ts, t ∈ vs) (h : tG (XV X.K) X.K W (mLc b mi g tt te vs) σ H Q) :
    tLc (tG (ItM X.K) X.K W mi) (fun v σ H Q => ∃ ι S ρ x ρ', LR X.K ι H ρ σ ∧ Rl X.K ι S H ∧ XV X.K ι H x v ∧ g S x ρ = some ρ' ∧ ∀ σ', LR X.K ι H ρ' σ' → Off ts σ σ' → Q σ' H)
      (tG RB X.K W0 tt) (tG (XV X.K) X.K W0 te) vs σ H (Qf b Q) := by
  obtain ⟨ι, S, ρ, hl, hr, h⟩ := h
  refine ⟨ι, S, ρ, hl, hr, step h fun xs J ι1 H1 S1 s1 r1 hJ h1 => ?_⟩
  intro D hD
  -- the loop's end
  have h2 : okP (lcLoop g tt te (wipeM ρ vs) xs [] S1) fun acc S2 => Post (XV X.K) X.K W ι1 σ H1 Q (bear b (.lst acc) S2) := by
    cases e : lcLoop g tt te (wipeM ρ vs) xs [] S1 with
    | ok x S' => rw [e] at h1; exact h1
    | exc x S' => rw [e] at h1; exact h1
    | bad => rw [e] at h1; exact h1
  clear h1
  obtain ⟨rD, sD⟩ := r1.beside (u := .lst []) hD
  have hl1 : LR X.K ι1 H1 (wipeM ρ vs) (wipe σ vs) := lr_wipe (hl.mono s1) vs
  refine ⟨fun i n H => ∃ ι S acc ws, Sub ι1 H1 ι H ∧ Rl X.K ι S H ∧ (∀ q ∈ ι, q.2 ≠ D) ∧ H D = some (.lst ws) ∧ XCs X.K ι H acc ws ∧ n = xs.length - i ∧
      okP (lcLoop g tt te (wipeM ρ vs) (xs.drop i) acc S) fun acc S2 => Post (XV X.K) X.K W ι1 σ H1 Q (bear b (.lst acc) S2),
    ⟨xs.length, ι1, S1, [], [], sD, rD, fun q hq z => r1.live q hq (by rw [z]; exact hD), upd_same, .nil, rfl, h2⟩, fun i n H hW => ?_⟩
  clear hl hr h s1 h2 rD sD
  obtain ⟨ι, S, acc, ws, s, hr, hq, hp, hx, hn, h⟩ := hW
  cases e : xs.drop i with
  | nil =>
    rw [e] at h
    have : xs.length ≤ i := by
      have := congrArg List.length e
      simp at this; omega
    exact .inl ⟨(hJ ι H S s hr i).2 this, bear_lst s hD hr hp hq hx h⟩
  | cons x r =>
    obtain ⟨e1, e2⟩ := drop_at e
    rw [e] at h
    obtain ⟨go, yl⟩ := (hJ ι H S s hr i).1 x e1
    refine .inr ⟨go, fun H => ∃ ι S acc ws, Sub ι1 H1 ι H ∧ Rl X.K ι S H ∧ (∀ q ∈ ι, q.2 ≠ D) ∧ H D = some (.lst ws) ∧ XCs X.K ι H acc ws ∧
      okP (lcLoop g tt te (wipeM ρ vs) r acc S) fun acc S2 => Post (XV X.K) X.K W ι1 σ H1 Q (bear b (.lst acc) S2), fun H' q => ⟨xs.length - (i + 1), ?_, ?_⟩, fun v H2 hy => ?_⟩
    · have := (List.getElem?_eq_some_iff.mp e1).1
      omega
    · obtain ⟨ι', S', a', w', a, b, c, d, f, k⟩ := q
      exact ⟨ι', S', a', w', a, b, c, d, f, rfl, by rw [e2]; exact k⟩
    · obtain ⟨r2, s2, hv⟩ := yl v H2 hy
      simp only [lcLoop] at h
      cases eg : g S x (wipeM ρ vs) with
      | none => rw [eg] at h; exact h.elim
      | some ρ1 =>
        rw [eg] at h
        simp only at h
        have sA := s.trans s2
        have hl2 := hl1.mono sA
        refine ⟨ι, S, wipeM ρ vs, x, ρ1, hl2, r2, hv, eg, fun σ' l' off => ⟨wipe_off hs off, ι, S, ρ1, l', r2, stepN h fun k k' ι3 H3 S3 s3 r3 ek h3 => ?_⟩⟩
        cases ek
        have hp2 := s2.keep D _ hp hq
        have hp3 := s3.keep D _ hp2 hq
        have hq3 : ∀ q ∈ ι3, q.2 ≠ D := fun q hm => by
          obtain ⟨t, rfl, ht⟩ := s3.pre
          rcases List.mem_append.mp hm with hm | hm
          · exact hq q hm
          · exact fun z => by rw [← z, ht q hm] at hp2; cases hp2
        have sB := sA.trans s3
        cases k with
        | false =>
          refine iteF ⟨ι3, S3, acc, ws, sB, r3, hq3, hp3, XCs.mono s3 (XCs.mono s2 hx), by simpa using h3⟩
        | true =>
          rw [if_pos rfl] at h3
          refine iteT ⟨ι3, S3, ρ1, l'.mono s3, r3, stepN h3 fun y v' ι4 H4 S4 s4 r4 hy h4 => ?_⟩
          have hp4 := s4.keep D _ hp3 hq3
          have hq4 : ∀ q ∈ ι4, q.2 ≠ D := fun q hm => by
            obtain ⟨t, rfl, ht⟩ := s4.pre
            rcases List.mem_append.mp hm with hm | hm
            · exact hq3 q hm
            · exact fun z => by rw [← z, ht q hm] at hp3; cases hp3
          by_cases c : y.free = true ∧ acc.length < sizeLine
          · rw [if_pos c] at h4
            have g4 : Grow H4 (upd H4 D (.lst (ws ++ [v']))) := Grow.write hp4 trivial
            have hx4 : XCs X.K ι4 H4 acc ws := XCs.mono s4 (XCs.mono s3 (XCs.mono s2 hx))
            refine ⟨ws, hp4, by rw [← hx.length]; exact c.2, ι4, S4, acc ++ [y], ws ++ [v'], (sB.trans s4).again hD hp4, r4.aside hp4 trivial hq4, hq4, upd_same, ?_, h4⟩
            exact Paired.append (XCs.grown ⟨[], (List.append_nil _).symm⟩ g4 hx4) (.cons ⟨c.1, hy.grown ⟨[], (List.append_nil _).symm⟩ g4⟩ .nil)
          · rw [if_neg c] at h4; exact h4.elim
abbrev tgM (X : Cx) (ts : List Nat) (g : MG) : TG := fun v σ H Q => ∃ ι S ρ x ρ', LR X.K ι H ρ σ ∧ Rl X.K ι S H ∧ XV X.K ι H x v ∧ g S x ρ = some ρ' ∧ ∀ σ', LR X.K ι H ρ' σ' → Off ts σ σ' → Q σ' H
theorem pm_lc {ts vs : List Nat} {elt tg iter : Expr} {ifs : List Expr} {scope : Scope} {own : List (Str × Nat)} {mi : MA} {g : MG} {tt : MT} {te : ME} (b : Bi) (hc : X.calm = true) (hN : X.N.Nodup) (hi : PIM X W tg iter mi) (ok : BlkOk X.N X.env.scope scope own)
    (hg : ∀ (s : Shared) (H : Hp) (C : Addr) (cl : List (Str × Addr)) (fp : List Addr), PMG (X.blk s H scope (compEnvC scope cl C X.env) fp) ts tg g) (ht : ∀ (s : Shared) (H : Hp) (C : Addr) (cl : List (Str × Addr)) (fp : List Addr), PTM (X.blk s H scope (compEnvC scope cl C X.env) fp) W0 ifs tt)
    (he : ∀ (s : Shared) (H : Hp) (C : Addr) (cl : List (Str × Addr)) (fp : List Addr), PM (X.blk s H scope (compEnvC scope cl C X.env) fp) W0 elt te) (hs : ∀ t ∈ ts, t ∈ vs) (hv : own.map (·.2) = vs := by rfl) (hf : ∀ x, foldedSetIterable iter X.env x = pure x := by intro _; rfl) :
    PM X W (.ListComp elt [⟨tg, iter, ifs, 0⟩] scope pos) (mLc b mi g tt te vs) := by
  subst hv
  exact pe_imp (pe_b b (pe_lc (g := tgM X ts g) (tt := tG RB X.K W0 tt) (te := tG (XV X.K) X.K W0 te) hc hN hi ok hg ht he hf)) fun σ H Q h => lc_coreM hs h
/-- name = [..] on one row -/
def Qs (b : Bi) (Q : L2.St → Hp → Prop) : L2.St → Hp → Prop := fun σ H => match b with
  | .frz => Q σ H ∨ ∃ a u, H a = some u ∧ Mut (some u) ∧ ∀ o, Q σ (upd H a (.frz o u))
  | _ => Q σ H
theorem ps_b {st : Stmt} {t : TS} (b : Bi) (h : PS X st t) : PS X st (fun D σ H => t { D with nx := Qs b D.nx } σ H) := by
  cases b with
  | frz =>
    refine ⟨fun pins s σ H D I q => thn (h.run pins s σ H _ I q) fun f s1 q => ?_⟩
    cases f with
    | next =>
      obtain ⟨σ', H', I1, q⟩ := q
      rcases q with q | ⟨a, u, ha, mu, q⟩
      · exact ⟨σ', H', I1, q⟩
      · obtain ⟨od, I2⟩ := I1.lock ha mu
        exact ⟨_, _, I2, q od⟩
    | ret v => exact q
    | brk => exact q
    | cont => exact q
  | ref => exact h
  | own => exact h
theorem pms_setLc {ts vs : List Nat} {i : Nat} {y : Str} {py spos : Pos} {elt tg iter : Expr} {ifs : List Expr} {scope : Scope} {own : List (Str × Nat)} {mi : MA} {g : MG} {tt : MT} {te : ME} (b : Bi) (hc : X.calm = true) (hN : X.N.Nodup) (hy : X.N[i]? = some y) (hyl : X.env.scope.names.lookup y = some .local)
    (hsw : swapsWith (.ListComp elt [⟨tg, iter, ifs, 0⟩] scope pos) (some (.Name y py)) spos.line X.env = pure true) (hi : PIM X W tg iter mi) (ok : BlkOk X.N X.env.scope scope own)
    (hg : ∀ (s : Shared) (H : Hp) (C : Addr) (cl : List (Str × Addr)) (fp : List Addr), PMG (X.blk s H scope (compEnvC scope cl C X.env) fp) ts tg g) (ht : ∀ (s : Shared) (H : Hp) (C : Addr) (cl : List (Str × Addr)) (fp : List Addr), PTM (X.blk s H scope (compEnvC scope cl C X.env) fp) W0 ifs tt)
    (he : ∀ (s : Shared) (H : Hp) (C : Addr) (cl : List (Str × Addr)) (fp : List Addr), PM (X.blk s H scope (compEnvC scope cl C X.env) fp) W0 elt te) (hs : ∀ t ∈ ts, t ∈ vs) (hv : own.map (·.2) = vs := by rfl) (hf : ∀ x, foldedSetIterable iter X.env x = pure x := by intro _; rfl) :
    PMS X W (.Assign [.Name y py] (.ListComp elt [⟨tg, iter, ifs, 0⟩] scope pos) spos) (mAsg (mLc b mi g tt te vs) (mgName i)) := by
  subst hv
  refine ps_imp (ps_b b (ps_setLc (g := tgM X ts g) (tt := tG RB X.K W0 tt) (te := tG (XV X.K) X.K W0 te) hc hN hy hyl hsw hi ok hg ht he hf)) fun D σ H h => ?_
  obtain ⟨ι, S, ρ, hl, hr, h⟩ := h
  have h' : tG (XV X.K) X.K W (mLc b mi g tt te (own.map (·.2))) σ H fun v H1 => D.nx (σ.set i (some v)) H1 :=
    ⟨ι, S, ρ, hl, hr, stepS h hl fun x v ι1 H1 S1 s1 r1 hx h1 => h1 _ _ _ (Sub.refl _ _) r1 ((hl.mono s1).set i hx)⟩
  have h2 := lc_coreM (b := b) hs h'
  show tLc _ _ _ _ _ σ H _
  cases b with
  | ref => exact h2
  | own => exact h2
  | frz =>
    have e : ∀ (v : V) (H1 : Hp), Qf .frz (fun v H1 => D.nx (σ.set i (some v)) H1) v H1 → Qs .frz D.nx (σ.set i (some v)) H1 := by
      rintro v H1 (q | ⟨a, u, rfl, ha, mu, q⟩)
      · exact .inl q
      · exact .inr ⟨a, u, ha, mu, q⟩
    obtain ⟨ι, S, ρ, hl, hr, hp⟩ := h2
    refine ⟨ι, S, ρ, hl, hr, hp.imp fun J H1 q D0 hD => ?_⟩
    obtain ⟨Wv, w0, tn⟩ := q D0 hD
    refine ⟨Wv, w0, fun j m H2 hw => ?_⟩
    rcases tn j m H2 hw with ⟨a, q⟩ | q
    · exact .inl ⟨a, e _ _ q⟩
    · exact .inr q
end
end MM
end
section
set_option Elab.async false
set_option linter.all false
set_option maxRecDepth 100000
set_option maxHeartbeats 4000000
set_option autoImplicit false
namespace MM
open PySem PySem.Spec PyProof.Rows L2

/-! ### the law's own call -/
theorem ints_FDs {K : PySem.W.Frag} {H : Hp} : ∀ ns : List Int, FDs K H (ns.map PyData.int) (ns.map V.int)
  | [] => .nil
  | n :: r => .cons (.int n) (ints_FDs r)
theorem law_end {P : Program} {w : World} {K : PySem.W.Frag} {mg mb : Str → Option Value} {k : Nat} {fa a : Addr} {fd : FuncData} {x : Str} {m : List Mv → Sg → Res Mv} {s0 : Shared} {vs : List Value} {ns : List Int}
    (kin : K.In s0.heap) (gl : s0.heap.Ns mainGlobals mg) (bl : s0.heap.Ns builtinsNs mb) (bb : ∀ y : Str, y ≠ "__name__" → mb y = bootBuiltins y) (lim : s0.heap.NoLimit) (gn : s0.gens = #[])
    (obj : s0.heap.get? a = some { cls := .type "list", data := .seq vs.toArray }) (its : IntsAre vs ns) (few : ns.length ≤ sizeLine) (room : Room k callerA)
    (F : ∀ base : Heap, K.In base → base.Ns mainGlobals mg → FnM P w K mg base k fa fd [x] m) (bnd : ∀ (s : Shared) (u : Value), BindsTo s fd ⟨[u], []⟩ [(x, u)])
    (good : ∃ S', m [.d (.list (ns.map PyData.int))] [] = .ok (.d (.bool true)) S') :
    codeAny (model P w) callerA (.call (.ref fa) ⟨[.ref a], []⟩) (fun r s' => r = .ok (.ret (.bool true)) ∧ OldK s0.heap s'.heap ∧ s'.os = s0.os ∧ AllBare s'.gens) s0 := by
  have rv := vals_ints its
  -- H: nothing is tracked but, perhaps, the script, known to its object
  have main : ∀ H : Hp, (∀ b, H b ≠ none → b = a ∧ K.lookup a = none ∧ ∃ o xs, H b = some (.frz o (.lst xs))) → FzL K H a (ns.map V.int) → HOk P w H s0.heap →
      codeAny (model P w) callerA (.call (.ref fa) ⟨[.ref a], []⟩) (fun r s' => r = .ok (.ret (.bool true)) ∧ OldK s0.heap s'.heap ∧ s'.os = s0.os ∧ AllBare s'.gens) s0 := by
    intro H only script held
    have off : ∀ {b : Addr} {o : Obj} {es : Array DictEntry} {ep : Nat}, s0.heap.get? b = some o → o.data = .dict es ep → H b = none := by
      intro b o es ep e d
      cases q : H b with
      | none => rfl
      | some u =>
        obtain ⟨rfl, _⟩ := only b (by rw [q]; exact fun z => nomatch z)
        rw [obj] at e; cases e; cases d
    have ns' : ∀ {b : Addr} {mm : Str → Option Value}, s0.heap.Ns b mm → (hidT s0.heap H).Ns b mm := fun ⟨o, es, ep, e, d, r⟩ => ⟨o, es, ep, hidT_get e (off e d), d, r⟩
    have kin' : K.In (hidT s0.heap H) := by
      intro b o e
      refine hidT_get (kin b o e) ?_
      cases q : H b with
      | none => rfl
      | some u =>
        obtain ⟨rfl, h2, _⟩ := only b (by rw [q]; exact fun z => nomatch z)
        rw [h2] at e; cases e
    have md : Mod K mg (hidT s0.heap H) := ⟨kin', ns' gl, ⟨mb, ns' bl, bb⟩, let ⟨mc, h1, h2⟩ := lim; ⟨mc, ns' h1, h2⟩⟩
    have ent : Env0 P w K mg (hidT s0.heap H) callerA [] s0 H := ⟨rfl, md, fun b o e => of_hidT e, Nat.le_of_eq (hidT_size _ _), trivial, (fun b hb => nomatch hb), held, .of_eq gn⟩
    obtain ⟨S', hS⟩ := good
    have want : spM K 1 m [.ref a] H (fun v _ => v = .bl true) (fun _ _ _ => False) := by
      refine ⟨[], [], [.d (.list (ns.map PyData.int))], .cons ⟨rfl, .lst script (ints_FDs ns)⟩ .nil, rfl, ⟨rfl, List.nodup_nil, (fun p hp => nomatch hp), (fun i b o p e => by simp at e)⟩, ?_⟩
      rw [hS]
      intro ι' H' v s r hv
      cases hv
      rfl
    refine codeAny_mono ((F _ kin' (ns' gl)).run callerA [] s0 H ⟨[.ref a], []⟩ [.ref a] [.ref a] _ _ room rfl ent (bnd s0 (.ref a)) (.cons rfl .nil) want) fun res s' got => ?_
    cases res with
    | error e => exact let ⟨_, _, _, _, _, _, _, _, _, _, _, _, z⟩ := got; z.elim
    | ok fl =>
      cases fl with
      | next => exact got.elim
      | brk => exact got.elim
      | cont => exact got.elim
      | ret u =>
        obtain ⟨v, H', os, bare, un, held', rel, (rfl : v = .bl true)⟩ := got
        obtain rfl : u = Value.bool true := rel
        refine ⟨rfl, OldK.of_keep fun b o e => ?_, os, bare⟩
        cases q : H b with
        | none => exact un.keep b o e q (fun z => nomatch z) (fun z => nomatch z)
        | some u =>
          obtain ⟨_, _, ob, xs, q2⟩ := only b (by rw [q]; exact fun z => nomatch z)
          have e1 := (held b _ q2).1
          have e2 := (held' b _ (un.frzs b ob _ q2)).1
          rw [e] at e1; cases e1
          exact e2
  cases hk : K.lookup a with
  | some o =>
    have e := kin a o hk
    rw [obj] at e; cases e
    exact main (fun _ => none) (fun b z => absurd rfl z) (.inr ⟨vs.toArray, _, hk, by rw [List.size_toArray, its.length]; exact few, by simpa using rv⟩) (fun b u z => by cases z)
  | none =>
    refine main (fun b => if b = a then some (.frz { cls := .type "list", data := .seq vs.toArray } (.lst (ns.map V.int))) else none) (fun b z => ?_) (.inl ⟨_, if_pos rfl⟩) (fun b u z => ?_)
    · by_cases hb : b = a
      · exact ⟨hb, hk, _, _, if_pos hb⟩
      · exact absurd (if_neg hb) z
    · by_cases hb : b = a
      · subst hb
        have z' := (if_pos rfl).symm.trans z
        cases z'
        exact ⟨obj, by rw [List.length_map]; exact few, vs, _, rv, obj⟩
      · have z' := (if_neg hb).symm.trans z
        cases z'
/-- the goal behind the head -/
theorem walk_end {l : PySem.W.OpenLaw} {n k : Nat} {q : Program} {loose : List Str} {XP : (Str → Option Value) → Heap → Prop} {YP : World → Heap → Prop} {d : DefRec} {K : Params → PySem.W.Frag} {x : Str}
    (hn : l.most = some n) (hn2 : n ≤ sizeLine) (hdf : d.params.defaults = []) (room : Room k callerA)
    (hY : ∀ (w : World) (h : Heap), YP w h → (K w.params).In h)
    (F : ∀ (w : World) (mg : Str → Option Value) (fa : Addr) (h : Heap), (K w.params).In h → h.Ns mainGlobals mg → mg d.name = some (.ref fa) →
      ∃ (fd : FuncData) (m : List Mv → Sg → Res Mv), (∀ (s : Shared) (u : Value), BindsTo s fd ⟨[u], []⟩ [(x, u)]) ∧
        (∀ base : Heap, (K w.params).In base → base.Ns mainGlobals mg → FnM l.prog w (K w.params) mg base k fa fd [x] m) ∧
        ∀ ns : List Int, ns.length ≤ n → ∃ S', m [.d (.list (ns.map PyData.int))] [] = .ok (.d (.bool true)) S') :
    PySem.W.WalkO q loose XP YP l.row.toRowW d [] (fun f vs => PySem.call f vs) := by
  refine Att.attach_call hn hdf fun w s0 s1 mg mb fa o pm cd doc a vs ns G Y ho hd hcd hmg obj its few gn => ?_
  have kin := hY w _ Y
  obtain ⟨fd, m, bnd, hF, good⟩ := F w mg fa _ kin G.T.g hmg
  exact law_end kin G.T.g G.T.b G.T.builtins G.T.nolimit gn obj its (Nat.le_trans few hn2) room hF bnd (good ns few)
end MM
end
section
set_option Elab.async false
set_option linter.all false
set_option maxRecDepth 100000
set_option maxHeartbeats 4000000
set_option autoImplicit false
namespace MM
open PySem PySem.Spec PyProof.Rows L2

/-! ### operators by values -/
section
variable {X : Cx} {W : WX}
theorem OpR.or2 {f : Value → Value → Sem Value} {r r' : R2} (h : OpR X f r) (h' : OpR X f r') : OpR X f (fun x y H Q => r x y H Q ∨ r' x y H Q) := fun pins s σ H x y v u Q I rx ry q => by
  rcases q with q | q
  · exact h pins s σ H x y v u Q I rx ry q
  · exact h' pins s σ H x y v u Q I rx ry q
/-- lists of any kind, one behind the other -/
def rCatL (K : PySem.W.Frag) : R2 := fun x y H Q => ∃ l b xs zs, x = .ref l ∧ y = .ref b ∧ SqL K H l xs ∧ SqL K H b zs ∧ xs.length + zs.length ≤ sizeLine ∧ ∀ p, H p = none → Q (.ref p) (upd H p (.lst (xs ++ zs)))
theorem op_catL : OpR X (binaryOp .Add) (rCatL X.K) := by
  intro pins s σ H x y v u Q I rx ry h
  obtain ⟨l, b, xs, zs, rfl, rfl, h1, h2, hz, q⟩ := h
  cases rx
  cases ry
  obtain ⟨its, r1, ⟨⟨cls, dd, data, sl⟩, n, e1, c1, d1, t1⟩, z1⟩ := I.list h1
  obtain ⟨its2, r2, ⟨⟨cls2, dd2, data2, sl2⟩, n2, e2, c2, d2, t2⟩, z2⟩ := I.list h2
  simp only at c1 d1 t1 c2 d2 t2
  subst c1 d1 t1 c2 d2 t2
  have la := r1.length
  have lb := r2.length
  refine concat_meets ⟨_, e1, rfl⟩ ⟨_, e2, rfl⟩ noFill_list_add seq_list_add PySem.F.slot_list_add PySem.F.entry_list_add (PySem.F.args_list_add_2 _ _) (PyProof.Rows.list_addW l b its.toArray its2.toArray n n2 none none sl sl2 (by simp; omega)) ⟨e1, e2, ?_⟩
  have ea : its.toArray ++ its2.toArray = (its ++ its2).toArray := by simp
  rw [ea]
  have hf : H s.heap.objs.size = none := I.hok.fresh (Nat.le_refl _)
  refine ⟨.ref s.heap.objs.size, upd H s.heap.objs.size (.lst (xs ++ zs)), I.laid (t' := s.toks) (fun b u e => Heap.get?_push_of_some _ e) (Nat.le_refl _) ?_, rfl, q _ hf⟩
  exact ⟨by rw [List.length_append]; exact hz, its ++ its2, 0, r1.append r2, Heap.get?_push_size _ rfl⟩

def Mv.isList (S : Sg) (x : Mv) : Option (List Mv) := match x.seq S with | some (false, xs) => some xs | _ => none
theorem Mv.isList_ok {K : PySem.W.Frag} {ι : Io} {S : Sg} {H : Hp} (hr : Rl K ι S H) {x : Mv} {v : V} (hx : XV K ι H x v) {xs : List Mv} (e : x.isList S = some xs) : ∃ a vs, v = .ref a ∧ PlnL K H a vs ∧ XCs K ι H xs vs := by
  unfold Mv.isList at e
  cases e1 : x.seq S with
  | none => rw [e1] at e; cases e
  | some p =>
    obtain ⟨t, ys⟩ := p
    rw [e1] at e
    cases t with
    | true => cases e
    | false =>
      cases e
      obtain ⟨a, vs, h1, h2, h3⟩ := Mv.seq_ok hr hx e1
      exact ⟨a, vs, h1, h2, h3⟩
def gAdd : Sg → Mv → Mv → Option Nw := fun S x y => match x, y with
  | .d (.int i), .d (.int j) => some (.val (.d (.int (i + j))))
  | .d (.str a), .d (.str b) => if a.length + b.length ≤ sizeLine then some (.val (.d (.str (a ++ b)))) else none
  | x, y => match x.isList S, y.isList S with
    | some xs, some ys => if xs.length + ys.length ≤ sizeLine then some (.lst (xs ++ ys)) else none
    | _, _ => none
theorem cat_case {K : PySem.W.Frag} {ι : Io} {S : Sg} {H : Hp} {Q : VK} {x y : Mv} {v u : V} {z : Nw} (hr : Rl K ι S H) (hx : XV K ι H x v) (hy : XV K ι H y u)
    (e : (match x.isList S, y.isList S with | some xs, some ys => if xs.length + ys.length ≤ sizeLine then some (Nw.lst (xs ++ ys)) else none | _, _ => none) = some z) (q : Raw K ι H Q z) : rCatL K v u H Q := by
  cases e1 : x.isList S with
  | none => rw [e1] at e; cases e
  | some xs =>
    cases e2 : y.isList S with
    | none => rw [e1, e2] at e; cases e
    | some ys =>
      rw [e1, e2] at e
      simp only at e
      by_cases c : xs.length + ys.length ≤ sizeLine
      · rw [if_pos c] at e
        cases e
        obtain ⟨a, vs, rfl, s1, p1⟩ := Mv.isList_ok hr hx e1
        obtain ⟨b, ws, rfl, s2, p2⟩ := Mv.isList_ok hr hy e2
        exact ⟨a, b, vs, ws, rfl, rfl, s1.sq, s2.sq, by rw [← p1.length, ← p2.length]; exact c, fun p hp => q _ p (Paired.append p1 p2) hp⟩
      · rw [if_neg c] at e; cases e
theorem o_add : OpP X (binaryOp .Add) gAdd := by
  refine OpR.imp (OpR.or2 op_add (OpR.or2 op_add_str op_catL)) fun v u H Q ⟨ι, S, x, y, z, hr, hx, hy, e, q⟩ => ?_
  unfold gAdd at e
  split at e
  · cases e; cases hx; cases hy
    exact .inl ⟨_, _, rfl, rfl, q _ (.int _)⟩
  · cases hx; cases hy
    split at e
    · rename_i c
      cases e
      exact .inr (.inl ⟨_, _, rfl, rfl, c, q _ (.str _)⟩)
    · cases e
  · exact .inr (.inr (cat_case hr hx hy e q))
def gSub : Sg → Mv → Mv → Option Nw := fun _ x y => match x, y with
  | .d (.int i), .d (.int j) => some (.val (.d (.int (i - j))))
  | _, _ => none
theorem o_sub : OpP X (binaryOp .Sub) gSub := by
  refine OpR.imp op_sub fun v u H Q ⟨ι, S, x, y, z, hr, hx, hy, e, q⟩ => ?_
  unfold gSub at e
  split at e
  · cases e; cases hx; cases hy
    exact ⟨_, _, rfl, rfl, q _ (.int _)⟩
  · cases e
/-- a text so many times -/
def strRep (x : Str) (n : Nat) : Str := ⟨(List.replicate n x.cps.toList).flatten.toArray⟩
theorem strRep_length (x : Str) (n : Nat) : (strRep x n).length = n * x.length := by
  unfold strRep Str.length
  simp [List.length_flatten]
theorem foldl_cat (a : Array Nat) : ∀ (n : Nat) (acc : Array Nat), (List.replicate n a).foldl (· ++ ·) acc = acc ++ (List.replicate n a.toList).flatten.toArray
  | 0, acc => by simp
  | n + 1, acc => by
    rw [List.replicate_succ, List.foldl_cons, foldl_cat a n, List.replicate_succ, List.flatten_cons]
    apply Array.ext'
    simp [Array.toList_append, List.append_assoc]
def rRepS : R2 := fun x y H Q => ∃ (z : Str) (n : Int), x = .str z ∧ y = .int n ∧ -(2 ^ 63) ≤ n ∧ n < 2 ^ 63 ∧ z.length * n.toNat ≤ sizeLine ∧ Q (.str (strRep z n.toNat)) H
theorem op_repS : OpR X (binaryOp .Mult) rRepS := by
  intro pins s σ H x y v u Q I rx ry h
  obtain ⟨z, n, rfl, rfl, h1, h2, hz, q⟩ := h
  obtain ⟨t, rfl⟩ := rx
  obtain ⟨t', rfl⟩ := ry
  have hsl : sizeLine = 16777216 := sizeLine_eq
  refine PySem.P.mul_str (by rw [decide_eq_false (by omega), decide_eq_false (by omega)]; rfl) (fun c1 c2 => ?_) (fun c1 c2 => ?_) ?_
  · intro c3
    simp only [Bool.or_eq_false_iff, beq_eq_false_iff_ne, ne_eq] at c2
    have hn : (0 : Int) < n := by omega
    have h3 : (z.length : Int) * n ≤ 16777216 := by
      have : ((z.length * n.toNat : Nat) : Int) ≤ 16777216 := by omega
      rw [Int.natCast_mul, Int.toNat_of_nonneg (by omega)] at this
      exact this
    have h4 : (z.length : Int) ≤ (2 ^ 63 - 1) / n := (Int.le_ediv_iff_mul_le hn).mpr (by omega)
    omega
  · unfold Builtin.Str.tooLong
    exact decide_eq_false (by omega)
  · by_cases c1 : n < 1
    · rw [if_pos c1]
      have e0 : n.toNat = 0 := by omega
      have e : strRep z n.toNat = Str.empty := by rw [e0]; rfl
      rw [e] at q
      exact ⟨Nat.zero_le _, .str _, H, I.tok _, ⟨_, rfl⟩, q⟩
    · rw [if_neg c1]
      by_cases c2 : (n == 1 || z.length == 0) = true
      · rw [if_pos c2]
        have e : strRep z n.toNat = z := by
          rcases Bool.or_eq_true_iff.mp c2 with c | c
          · have : n = 1 := by simpa using c
            subst this
            unfold strRep
            show (⟨(List.replicate 1 z.cps.toList).flatten.toArray⟩ : Str) = z
            simp
          · have c' : z.length = 0 := by simpa using c
            have : z.cps = #[] := Array.eq_empty_of_size_eq_zero c'
            unfold strRep
            obtain ⟨cps⟩ := z
            simp only at this
            subst this
            simp
        rw [e] at q
        exact ⟨.str _, H, I, ⟨t, rfl⟩, q⟩
      · rw [if_neg c2, foldl_cat]
        have e : (⟨#[] ++ (List.replicate n.toNat z.cps.toList).flatten.toArray⟩ : Str) = strRep z n.toNat := by unfold strRep; simp
        rw [e]
        exact ⟨by rw [strRep_length, Nat.mul_comm]; exact hz, .str _, H, I.tok _, ⟨_, rfl⟩, q⟩
theorem Paired.rep {α β : Type} {F : α → β → Prop} {xs : List α} {ys : List β} (h : Paired F xs ys) : ∀ n, Paired F (List.replicate n xs).flatten (List.replicate n ys).flatten
  | 0 => .nil
  | n + 1 => by
    rw [List.replicate_succ, List.replicate_succ, List.flatten_cons, List.flatten_cons]
    exact Paired.append h (Paired.rep h n)
/-- a list of any kind so many times -/
def rRepL (K : PySem.W.Frag) : R2 := fun x y H Q => ∃ l k xs, x = .ref l ∧ y = .int k ∧ PlnL K H l xs ∧ -(2 ^ 63) ≤ k ∧ k < 2 ^ 63 ∧ xs.length * k.toNat ≤ sizeLine ∧ ∀ p, H p = none → Q (.ref p) (upd H p (.lst (List.replicate k.toNat xs).flatten))
theorem op_repL : OpR X (binaryOp .Mult) (rRepL X.K) := by
  intro pins s σ H x y v u Q I rx ry h
  obtain ⟨l, k, xs, rfl, rfl, hH, b1, b2, hz, q⟩ := h
  cases rx
  obtain ⟨t, rfl⟩ := ry
  obtain ⟨its, n, e, r, few⟩ := PlnL.obj I hH
  have hl := r.length
  have room : its.toArray.size * k.toNat ≤ sizeLine := by rw [List.size_toArray, ← hl]; exact hz
  have cap : ¬ its.toArray.size * k.toNat > (2 ^ 63 - 1) / 8 := by
    have big : (sizeLine : Nat) ≤ (2 ^ 63 - 1) / 8 := by decide
    omega
  have fit : ¬ (!Builtin.List.listFitsIndex k) = true := by rw [fitsIndex_both b1 b2]; exact Bool.false_ne_true
  have long : ¬ Builtin.List.listTooLong (its.toArray.size * k.toNat) = true := by rw [notLongL room]; exact Bool.false_ne_true
  have made : List.foldl (fun x1 x2 => x1 ++ x2) #[] (List.replicate (if its.toArray.isEmpty = true then 0 else k.toNat) its.toArray) = (List.replicate k.toNat its).flatten.toArray := by
    have f0 : ∀ m : Nat, List.foldl (fun x1 x2 => x1 ++ x2) #[] (List.replicate m its.toArray) = (List.replicate m its).flatten.toArray := fun m => by
      have := foldl_rep its m []
      rw [List.nil_append] at this
      exact this
    rw [f0]
    cases its with
    | nil => simp
    | cons a r' => rw [if_neg (by simp)]
  refine wpAny_binaryOp_repeat_ref (T := "list") (U := "int") (by decide) ⟨_, e, rfl⟩ (fun s' => typeIs_int s' k t) noFill_list_mul PySem.F.fills_int_mul PySem.F.slot_int_rmul repeat_list PySem.F.slot_int_index.lookup
    (call_meets PySem.F.slot_int_rmul (typeIs_int s k t) PySem.F.entry_int_rmul (PySem.F.args_int_rmul_2 _ _) (int___rmul___int_list k t l its.toArray n)
      ⟨e, rfl, ⟨_, e, rfl⟩, call_meets PySem.F.slot_list_mul ⟨_, e, rfl⟩ PySem.F.entry_list_mul (PySem.F.args_list_mul_2 _ _) (AutoListH.list___mul___list_int_3 l its.toArray n k t fit cap long) ⟨e, ?_⟩⟩)
  rw [made]
  exact ⟨.ref _, _, I.lnew (t' := s.toks) (r.rep k.toNat) (by rw [PyProof.Rows.lm_len_rep_flat, Nat.mul_comm]; exact hz), rfl, q _ I.fresh⟩
def repSq (S : Sg) (x : Mv) (k : Int) : Option Nw := match x.seq S with
  | some (false, xs) => if -(2 ^ 63) ≤ k ∧ k < 2 ^ 63 ∧ xs.length * k.toNat ≤ sizeLine then some (.lst (List.replicate k.toNat xs).flatten) else none
  | some (true, xs) => if xs ≠ [] ∧ 2 ≤ k ∧ k ≤ 1000 ∧ xs.length ≤ 1000 then some (.tup (List.replicate k.toNat xs).flatten) else none
  | none => none
def gMul : Sg → Mv → Mv → Option Nw := fun S x y => match x, y with
  | .d (.int i), .d (.int j) => if (-(2 ^ 64) < i ∧ i < 2 ^ 64) ∨ (-(2 ^ 64) < j ∧ j < 2 ^ 64) then some (.val (.d (.int (i * j)))) else none
  | .d (.str z), .d (.int n) => if -(2 ^ 63) ≤ n ∧ n < 2 ^ 63 ∧ z.length * n.toNat ≤ sizeLine then some (.val (.d (.str (strRep z n.toNat)))) else none
  | x, .d (.int k) => repSq S x k
  | _, _ => none
theorem o_mul : OpP X (binaryOp .Mult) gMul := by
  refine OpR.imp (OpR.or2 (OpR.or2 op_mul op_repS) (OpR.or2 op_repL op_repT)) fun v u H Q ⟨ι, S, x, y, z, hr, hx, hy, e, q⟩ => ?_
  unfold gMul at e
  split at e
  · split at e
    · rename_i c
      cases e; cases hx; cases hy
      exact .inl (.inl ⟨_, _, rfl, rfl, c, q _ (.int _)⟩)
    · cases e
  · split at e
    · rename_i c
      cases e; cases hx; cases hy
      exact .inl (.inr ⟨_, _, rfl, rfl, c.1, c.2.1, c.2.2, q _ (.str _)⟩)
    · cases e
  · rename_i k _ _
    unfold repSq at e
    cases hy
    split at e
    · rename_i xs e1
      obtain ⟨a, vs, rfl, s1, p1⟩ := Mv.seq_ok hr hx e1
      split at e
      · rename_i c
        cases e
        exact .inr (.inl ⟨a, k, vs, rfl, rfl, s1, c.1, c.2.1, by rw [← p1.length]; exact c.2.2, fun p hp => q _ p (Paired.rep p1 _) hp⟩)
      · cases e
    · rename_i xs e1
      obtain ⟨a, vs, rfl, s1, p1⟩ := Mv.seq_ok hr hx e1
      split at e
      · rename_i c
        cases e
        refine .inr (.inr ⟨a, k, vs, rfl, rfl, s1, fun h => c.1 ?_, c.2.1, c.2.2.1, by rw [← p1.length]; exact c.2.2.2, fun p hp => q _ p (Paired.rep p1 _) hp⟩)
        subst h
        exact List.eq_nil_of_length_eq_zero p1.length
      · cases e
    · cases e
  · cases e
def gMod : Sg → Mv → Mv → Option Nw := fun _ x y => match x, y with
  | .d (.int i), .d (.int j) => if 0 < j then some (.val (.d (.int (i % j)))) else none
  | _, _ => none
theorem o_mod : OpP X (binaryOp .Mod) gMod := by
  refine OpR.imp op_mod fun v u H Q ⟨ι, S, x, y, z, hr, hx, hy, e, q⟩ => ?_
  unfold gMod at e
  split at e
  · split at e
    · rename_i c
      cases e; cases hx; cases hy
      exact ⟨_, _, rfl, rfl, c, q _ (.int _)⟩
    · cases e
  · cases e
def gFdiv : Sg → Mv → Mv → Option Nw := fun _ x y => match x, y with
  | .d (.int i), .d (.int j) => if 0 < j ∧ j < 2 ^ 64 then some (.val (.d (.int (i / j)))) else none
  | _, _ => none
theorem o_fdiv : OpP X (binaryOp .FloorDiv) gFdiv := by
  refine OpR.imp op_fdivW fun v u H Q ⟨ι, S, x, y, z, hr, hx, hy, e, q⟩ => ?_
  unfold gFdiv at e
  split at e
  · split at e
    · rename_i i j c
      cases e; cases hx; cases hy
      exact ⟨_, _, rfl, rfl, wide_div (b := 64) c.1 (by omega) (by decide) (by decide), q _ (.int _)⟩
    · cases e
  · cases e
def gPow : Sg → Mv → Mv → Option Nw := fun _ x y => match x, y with
  | .d (.int i), .d (.int j) => if 0 ≤ j ∧ j ≤ 1000000 ∧ i.natAbs < 2 ^ 64 then some (.val (.d (.int (i ^ j.toNat)))) else none
  | _, _ => none
theorem o_pow : OpP X (binaryOp .Pow) gPow := by
  refine OpR.imp op_pow fun v u H Q ⟨ι, S, x, y, z, hr, hx, hy, e, q⟩ => ?_
  unfold gPow at e
  split at e
  · split at e
    · rename_i c
      cases e; cases hx; cases hy
      exact ⟨_, _, rfl, rfl, c, q _ (.int _)⟩
    · cases e
  · cases e

/-! ### comparisons -/
def gIntB (f : Int → Int → Bool) : Sg → Mv → Mv → Option Nw := fun _ x y => match x, y with
  | .d (.int i), .d (.int j) => some (.val (.d (.bool (f i j))))
  | _, _ => none
theorem o_intB {op : CmpOp} {f : Int → Int → Bool} (h : OpR X (compareOp op) (rI0 fun i j => .bl (f i j))) : OpP X (compareOp op) (gIntB f) := by
  refine OpR.imp h fun v u H Q ⟨ι, S, x, y, z, hr, hx, hy, e, q⟩ => ?_
  unfold gIntB at e
  split at e
  · cases e; cases hx; cases hy
    exact ⟨_, _, rfl, rfl, q _ (.bl _)⟩
  · cases e
abbrev gLt := gIntB fun i j => decide (i < j)
abbrev gLe := gIntB fun i j => decide (i ≤ j)
abbrev gGt := gIntB fun i j => decide (j < i)
abbrev gGe := gIntB fun i j => decide (j ≤ i)
theorem o_lt : OpP X (compareOp .Lt) gLt := o_intB op_lt
theorem o_le : OpP X (compareOp .LtE) gLe := o_intB op_le
theorem o_gt : OpP X (compareOp .Gt) gGt := o_intB op_gt
theorem o_ge : OpP X (compareOp .GtE) gGe := o_intB op_ge
/-- what a value is as data, a list of the store by its items -/
def Mv.data (S : Sg) (x : Mv) : Option PyData := match x with
  | .d x => some x
  | x => match x.seq S with
    | some (false, xs) => (allD xs).map .list
    | some (true, xs) => (allD xs).map .tuple
    | none => none
mutual
theorem FD.dp {K : PySem.W.Frag} {H : Hp} : ∀ {d : PyData} {v : V}, FD K H d v → d.hasDict = false → Dp K H v d
  | _, _, .non, _ => .non
  | _, _, .bl b, _ => .bl b
  | _, _, .int i, _ => .int i
  | _, _, .str x, _ => .str x
  | _, _, .lst h hs, e => .lst h.sq (FDs.dp hs (by simpa [PyData.hasDict] using e))
  | _, _, .tup h hs, e => .tup h (FDs.dp hs (by simpa [PyData.hasDict] using e))
  | _, _, .dct _ _, e => by simp [PyData.hasDict] at e
theorem FDs.dp {K : PySem.W.Frag} {H : Hp} : ∀ {ds : List PyData} {vs : List V}, FDs K H ds vs → PyData.hasDictAll ds = false → DpAll K H vs ds
  | _, _, .nil, _ => .nil
  | _, _, .cons h hs, e => by
    simp only [PyData.hasDictAll, Bool.or_eq_false_iff] at e
    exact .cons (FD.dp h e.1) (FDs.dp hs e.2)
end
theorem noDict_of_shaped {d : PyData} (h : SeqAt.shaped d = true) : d.hasDict = false := PyData.hasDict_of_canLay d (SeqAt.canLay_of_shaped h)
theorem Mv.data_ok {K : PySem.W.Frag} {ι : Io} {S : Sg} {H : Hp} (hr : Rl K ι S H) {x : Mv} {v : V} (hx : XV K ι H x v) {d : PyData} (e : x.data S = some d) (hs : SeqAt.shaped d = true) : Dp K H v d := by
  have hd := noDict_of_shaped hs
  have sq : ∀ t xs, x.seq S = some (t, xs) → (∀ ds, allD xs = some ds → d = (if t = true then .tuple ds else .list ds) → Dp K H v d) := by
    intro t xs e1 ds e2 e3
    obtain ⟨a, vs, rfl, h1, h2⟩ := Mv.seq_ok hr hx e1
    have p := allD_FDs h2 e2
    subst e3
    cases t with
    | true => exact .tup h1 (FDs.dp p (by simpa [PyData.hasDict] using hd))
    | false => exact .lst (PlnL.sq h1) (FDs.dp p (by simpa [PyData.hasDict] using hd))
  cases x with
  | d y => cases e; exact FD.dp hx hd
  | _ =>
    simp only [Mv.data] at e
    split at e
    · rename_i xs e1
      obtain ⟨ds, e2, e3⟩ := Option.map_eq_some_iff.mp e
      exact sq _ _ e1 ds e2 e3.symm
    · rename_i xs e1
      obtain ⟨ds, e2, e3⟩ := Option.map_eq_some_iff.mp e
      exact sq _ _ e1 ds e2 e3.symm
    · cases e
def gEqN (neg : Bool) : Sg → Mv → Mv → Option Nw := fun S x y => match x, y with
  | .d (.str a), .d (.str b) => some (.val (.d (.bool (if neg then !decide (a = b) else decide (a = b)))))
  | x, y => match x.data S, y.data S with
    | some d, some e => if SeqAt.shaped d = true ∧ SeqAt.shaped e = true then some (.val (.d (.bool (if neg then !PyData.eqv d e else PyData.eqv d e)))) else none
    | _, _ => none
theorem eqN_case {K : PySem.W.Frag} {neg : Bool} {ι : Io} {S : Sg} {H : Hp} {Q : VK} {x y : Mv} {v u : V} {z : Nw} (hr : Rl K ι S H) (hx : XV K ι H x v) (hy : XV K ι H y u) (e : gEqN neg S x y = some z) (q : Raw K ι H Q z) :
    (∃ a b, v = .str a ∧ u = .str b ∧ Q (.bl (if neg then !decide (a = b) else decide (a = b))) H) ∨
      ∃ d e, Dp K H v d ∧ Dp K H u e ∧ SeqAt.shaped d = true ∧ SeqAt.shaped e = true ∧ Q (.bl (if neg then !PyData.eqv d e else PyData.eqv d e)) H := by
  unfold gEqN at e
  split at e
  · cases e; cases hx; cases hy
    exact .inl ⟨_, _, rfl, rfl, q _ (.bl _)⟩
  · cases e1 : x.data S with
    | none => rw [e1] at e; cases e
    | some d =>
      cases e2 : y.data S with
      | none => rw [e1, e2] at e; cases e
      | some d' =>
        rw [e1, e2] at e
        simp only at e
        by_cases c : SeqAt.shaped d = true ∧ SeqAt.shaped d' = true
        · rw [if_pos c] at e
          cases e
          exact .inr ⟨d, d', Mv.data_ok hr hx e1 c.1, Mv.data_ok hr hy e2 c.2, c.1, c.2, q _ (.bl _)⟩
        · rw [if_neg c] at e; cases e
theorem str_dec {a b : Str} : decide (V.str a = V.str b) = decide (a = b) := by
  by_cases h : a = b
  · subst h; rw [decide_eq_true rfl, decide_eq_true rfl]
  · rw [decide_eq_false h, decide_eq_false fun e => h (V.str.inj e)]
theorem o_eq (hu : X.A.units + 64 < cLine) : OpP X (compareOp .Eq) (gEqN false) := OpR.imp (OpR.or2 op_eq (op_eqD hu)) fun v u H Q ⟨ι, S, x, y, z, hr, hx, hy, e, q⟩ => by
  rcases eqN_case (neg := false) hr hx hy e q with ⟨a, b, rfl, rfl, h⟩ | h
  · exact .inl ⟨rfl, by rw [str_dec]; exact h⟩
  · exact .inr h
theorem o_ne (hu : X.A.units + 64 < cLine) : OpP X (compareOp .NotEq) (gEqN true) := OpR.imp (OpR.or2 op_ne (op_neD hu)) fun v u H Q ⟨ι, S, x, y, z, hr, hx, hy, e, q⟩ => by
  rcases eqN_case (neg := true) hr hx hy e q with ⟨a, b, rfl, rfl, h⟩ | h
  · exact .inl ⟨rfl, by rw [str_dec]; exact h⟩
  · exact .inr h
/-- in, not in: of a text, of a list -/
def inStr (i j : Str) : Bool := !(Builtin.Str.occurrences j i 0 j.length 1).isEmpty
def gInN (neg : Bool) : Sg → Mv → Mv → Option Nw := fun S x y => match x, y with
  | .d (.str i), .d (.str j) => some (.val (.d (.bool (if neg then !inStr i j else inStr i j))))
  | x, y => match x.data S, y.data S with
    | some d, some (.list ds) => if SeqAt.shaped d = true ∧ SeqAt.shaped (.list ds) = true then some (.val (.d (.bool (if neg then !ds.any (fun z => PyData.eqv z d) else ds.any (fun z => PyData.eqv z d))))) else none
    | _, _ => none
theorem inN_case {K : PySem.W.Frag} {neg : Bool} {ι : Io} {S : Sg} {H : Hp} {Q : VK} {x y : Mv} {v u : V} {z : Nw} (hr : Rl K ι S H) (hx : XV K ι H x v) (hy : XV K ι H y u) (e : gInN neg S x y = some z) (q : Raw K ι H Q z) :
    (∃ i j, v = .str i ∧ u = .str j ∧ Q (.bl (if neg then !inStr i j else inStr i j)) H) ∨
      ∃ d ds, Dp K H v d ∧ Dp K H u (.list ds) ∧ SeqAt.shaped d = true ∧ SeqAt.shaped (.list ds) = true ∧ Q (.bl (if neg then !ds.any (fun z => PyData.eqv z d) else ds.any (fun z => PyData.eqv z d))) H := by
  unfold gInN at e
  split at e
  · cases e; cases hx; cases hy
    exact .inl ⟨_, _, rfl, rfl, q _ (.bl _)⟩
  · split at e
    · rename_i d ds e1 e2
      split at e
      · rename_i c
        cases e
        exact .inr ⟨d, ds, Mv.data_ok hr hx e1 c.1, Mv.data_ok hr hy e2 c.2, c.1, c.2, q _ (.bl _)⟩
      · cases e
    · cases e
theorem o_in (hu : X.A.units + 65 < cLine) : OpP X (compareOp .In) (gInN false) := OpR.imp (OpR.or2 op_in_str (op_inD hu)) fun v u H Q ⟨ι, S, x, y, z, hr, hx, hy, e, q⟩ => inN_case (neg := false) hr hx hy e q
theorem o_notIn (hu : X.A.units + 65 < cLine) : OpP X (compareOp .NotIn) (gInN true) := by
  refine OpR.imp (OpR.or2 op_notin_str (op_notInD hu)) fun v u H Q ⟨ι, S, x, y, z, hr, hx, hy, e, q⟩ => ?_
  rcases inN_case (neg := true) hr hx hy e q with ⟨i, j, h1, h2, h3⟩ | h
  · refine .inl ⟨i, j, h1, h2, ?_⟩
    have h4 : Q (.bl (!inStr i j)) H := h3
    simpa [inStr] using h4
  · exact .inr h
/-- is, is not: none, truths -/
def gIsN (neg : Bool) : Sg → Mv → Mv → Option Nw := fun _ x y => match x, y with
  | .d x, .d .none => some (.val (.d (.bool (match x with | .none => !neg | _ => neg))))
  | .ref _, .d .none => some (.val (.d (.bool neg)))
  | .d (.bool a), .d (.bool b) => some (.val (.d (.bool (if neg then !decide (a = b) else decide (a = b)))))
  | _, _ => none
theorem isN_case {K : PySem.W.Frag} {neg : Bool} {ι : Io} {S : Sg} {H : Hp} {Q : VK} {x y : Mv} {v u : V} {z : Nw} (hx : XV K ι H x v) (hy : XV K ι H y u) (e : gIsN neg S x y = some z) (q : Raw K ι H Q z) :
    (u = .non ∧ Q (.bl (if neg then !decide (v = .non) else decide (v = .non))) H) ∨ ∃ a b, v = .bl a ∧ u = .bl b ∧ Q (.bl (if neg then !decide (a = b) else decide (a = b))) H := by
  unfold gIsN at e
  split at e
  · cases e; cases hy
    refine .inl ⟨rfl, ?_⟩
    have q := q _ (.bl _)
    cases neg <;> cases hx <;> simpa using q
  · cases e; cases hy
    obtain ⟨a, _, rfl⟩ := hx
    refine .inl ⟨rfl, ?_⟩
    have q := q _ (.bl _)
    cases neg <;> simpa using q
  · cases e; cases hx; cases hy
    exact .inr ⟨_, _, rfl, rfl, q _ (.bl _)⟩
  · cases e
theorem o_is : OpP X (compareOp .Is) (gIsN false) := OpR.imp (OpR.or2 op_isN op_is_bl) fun v u H Q ⟨ι, S, x, y, z, hr, hx, hy, e, q⟩ => isN_case (neg := false) hx hy e q
theorem o_isnot : OpP X (compareOp .IsNot) (gIsN true) := OpR.imp (OpR.or2 op_notN op_isnot_bl) fun v u H Q ⟨ι, S, x, y, z, hr, hx, hy, e, q⟩ => isN_case (neg := true) hx hy e q
end
end MM
end
section
set_option Elab.async false
set_option linter.all false
set_option maxRecDepth 100000
set_option maxHeartbeats 4000000
set_option autoImplicit false
namespace MM
open PySem PySem.Spec PyProof.Rows L2

/-! ### built-ins by name -/
section
variable {X : Cx} {W : WX}
def CallP (X : Cx) (f : Value) (g : Sg → List Mv → Option Nw) : Prop :=
  CallR X f fun vs H Q => ∃ ι S xs z, Rl X.K ι S H ∧ XVs X.K ι H xs vs ∧ g S xs = some z ∧ Raw X.K ι H Q z
theorem CallR.imp {f : Value} {r r' : List V → Hp → VK → Prop} (h : CallR X f r) (i : ∀ x H Q, r' x H Q → r x H Q) : CallR X f r' := fun pins s σ H xs us Q I rx q => h pins s σ H xs us Q I rx (i _ _ _ q)
theorem CallR.or2 {f : Value} {r r' : List V → Hp → VK → Prop} (h : CallR X f r) (h' : CallR X f r') : CallR X f (fun x H Q => r x H Q ∨ r' x H Q) := fun pins s σ H xs us Q I rx q => by
  rcases q with q | q
  · exact h pins s σ H xs us Q I rx q
  · exact h' pins s σ H xs us Q I rx q
def mCB (b : Bi) (g : Sg → List Mv → Option Nw) (a : MA) : ME := fun ρ S => (a ρ S).bind fun xs S1 => opt (g S1 xs) fun z => bear b z S1
theorem cb_core {g : Sg → List Mv → Option Nw} {ma : MA} {b : Bi} {σ : L2.St} {H : Hp} {Q : VK} (h : tG (XV X.K) X.K W (mCB b g ma) σ H Q) :
    tCB (fun vs H Q => ∃ ι S xs z, Rl X.K ι S H ∧ XVs X.K ι H xs vs ∧ g S xs = some z ∧ Raw X.K ι H Q z) (tG (XVs X.K) X.K W ma) σ H (Qf b Q) := by
  obtain ⟨ι, S, ρ, hl, hr, h⟩ := h
  refine ⟨ι, S, ρ, hl, hr, step h fun xs vs ι1 H1 S1 s1 r1 hx h1 => ?_⟩
  unfold opt at h1
  cases e : g S1 xs with
  | none => rw [e] at h1; exact h1.elim
  | some z =>
    rw [e] at h1
    exact ⟨ι1, S1, xs, z, r1, hx, e, bear_raw r1 h1⟩
theorem pm_callB {x : Str} {id : String} {g : Sg → List Mv → Option Nw} {ma : MA} {e : Expr} {es : List Expr} {p pos : Pos} (b : Bi) (hc : CallP X (.builtin id) g) (hg : Gl X x) (hm : X.mg x = none) (hv : bootBuiltins x = some (.builtin id)) (ha : PL X W (e :: es) ma) (hn : x ≠ "__name__" := by decide) (hdb : (x == ("__debug__" : Str)) = false := by decide)
    (he : starEach (e :: es) X.env = (false, eval e X.env) :: starEach es X.env := by rfl) (hpl : (backTo pos (starEach es X.env)).any (·.1) = false := by rfl) : PM X W (.Call (.Name x p) (e :: es) [] pos) (mCB b g ma) :=
  pe_imp (pe_b b (pe_callB hc hg hm hv ha hn hdb he hpl)) fun σ H Q h => cb_core h
theorem pm_callTy {x : Str} {T : String} {g : Sg → List Mv → Option Nw} {ma : MA} {e : Expr} {es : List Expr} {p pos : Pos} (b : Bi) (hc : CallP X (.type T) g) (hg : Gl X x) (hm : X.mg x = none) (hv : bootBuiltins x = some (.type T)) (ha : PL X W (e :: es) ma) (hn : x ≠ "__name__" := by decide) (hdb : (x == ("__debug__" : Str)) = false := by decide)
    (he : starEach (e :: es) X.env = (false, eval e X.env) :: starEach es X.env := by rfl) (hpl : (backTo pos (starEach es X.env)).any (·.1) = false := by rfl) : PM X W (.Call (.Name x p) (e :: es) [] pos) (mCB b g ma) :=
  pe_imp (pe_b b (pe_callTy hc hg hm hv ha hn hdb he hpl)) fun σ H Q h => cb_core h
/-- a built-in class as a value -/
theorem pm_ty {x : Str} {T : String} {pos : Pos} (hg : Gl X x) (hm : X.mg x = none) (hv : bootBuiltins x = some (.type T)) (hn : x ≠ "__name__" := by decide) (hd : (x == ("__debug__" : Str)) = false := by decide) : PM X W (.Name x pos) (mK (.ty T)) :=
  pe_imp (pe_bltn (v := .ty T) hg hm hv rfl hn hd) fun σ H Q ⟨ι, S, ρ, hl, hr, h⟩ => h _ _ _ (Sub.refl _ _) hr rfl
theorem one_of {K : PySem.W.Frag} {ι : Io} {H : Hp} {x : Mv} {vs : List V} (h : XVs K ι H [x] vs) : ∃ v, vs = [v] ∧ XV K ι H x v := by
  cases h with | cons r t => cases t; exact ⟨_, rfl, r⟩
theorem two_of {K : PySem.W.Frag} {ι : Io} {H : Hp} {x y : Mv} {vs : List V} (h : XVs K ι H [x, y] vs) : ∃ v u, vs = [v, u] ∧ XV K ι H x v ∧ XV K ι H y u := by
  cases h with | cons r t => obtain ⟨u, rfl, q⟩ := one_of t; exact ⟨_, u, rfl, r, q⟩

/-- len -/
def Mv.len (S : Sg) (x : Mv) : Option Nat := match x with
  | .d (.str z) => if z.length ≤ sizeLine then some z.length else none
  | x => (x.seq S).map fun q => q.2.length
theorem Mv.len_ok {K : PySem.W.Frag} {ι : Io} {S : Sg} {H : Hp} (hr : Rl K ι S H) {x : Mv} {v : V} (hx : XV K ι H x v) {n : Nat} (e : x.len S = some n) : LenV K v H n := by
  have sq : ∀ t xs, x.seq S = some (t, xs) → n = xs.length → LenV K v H n := by
    intro t xs e1 e2
    obtain ⟨a, vs, rfl, h1, h2⟩ := Mv.seq_ok hr hx e1
    cases t with
    | true => exact .inr ⟨vs, h1, by rw [e2, h2.length]⟩
    | false => exact .inl ⟨vs, PlnL.sq h1, by rw [e2, h2.length]⟩
  unfold Mv.len at e
  split at e
  · split at e
    · cases e; cases hx
      exact ⟨by assumption, rfl⟩
    · cases e
  · obtain ⟨⟨t, xs⟩, e1, e2⟩ := Option.map_eq_some_iff.mp e
    exact sq t xs e1 e2.symm
def gLen : Sg → List Mv → Option Nw := fun S xs => match xs with
  | [x] => (x.len S).map fun n : Nat => .val (.d (.int n))
  | _ => none
theorem c_len : CallP X (.builtin "len") gLen := by
  refine CallR.imp call_len fun vs H Q ⟨ι, S, xs, z, hr, hx, e, q⟩ => ?_
  unfold gLen at e
  split at e
  · obtain ⟨n, e1, rfl⟩ := Option.map_eq_some_iff.mp e
    obtain ⟨v, rfl, h⟩ := one_of hx
    exact ⟨v, n, rfl, Mv.len_ok hr h e1, q _ (.int _)⟩
  · cases e
/-- lists of truths, of whole numbers, of texts -/
def boolsM : List Mv → Option (List Bool)
  | [] => some []
  | .d (.bool b) :: r => (boolsM r).map (b :: ·)
  | _ :: _ => none
def intsM : List Mv → Option (List Int)
  | [] => some []
  | .d (.int b) :: r => (intsM r).map (b :: ·)
  | _ :: _ => none
def strsM : List Mv → Option (List Str)
  | [] => some []
  | .d (.str b) :: r => (strsM r).map (b :: ·)
  | _ :: _ => none
section
variable {K : PySem.W.Frag} {ι : Io} {H : Hp}
theorem bools_ok : ∀ {xs : List Mv} {vs : List V} {bs : List Bool}, XCs K ι H xs vs → boolsM xs = some bs → vs = bs.map V.bl
  | _, _, _, .nil, e => by cases e; rfl
  | x :: xs, _, _, .cons r t, e => by
    cases x with
    | d y => cases y with
      | bool b =>
        obtain ⟨l, e1, rfl⟩ := Option.map_eq_some_iff.mp (show (boolsM xs).map (b :: ·) = _ from e)
        cases r.2
        rw [bools_ok t e1]; rfl
      | _ => cases e
    | _ => cases e
theorem ints_ok : ∀ {xs : List Mv} {vs : List V} {bs : List Int}, XCs K ι H xs vs → intsM xs = some bs → vs = bs.map V.int
  | _, _, _, .nil, e => by cases e; rfl
  | x :: xs, _, _, .cons r t, e => by
    cases x with
    | d y => cases y with
      | int b =>
        obtain ⟨l, e1, rfl⟩ := Option.map_eq_some_iff.mp (show (intsM xs).map (b :: ·) = _ from e)
        cases r.2
        rw [ints_ok t e1]; rfl
      | _ => cases e
    | _ => cases e
theorem strs_ok : ∀ {xs : List Mv} {vs : List V} {bs : List Str}, XCs K ι H xs vs → strsM xs = some bs → vs = bs.map V.str
  | _, _, _, .nil, e => by cases e; rfl
  | x :: xs, _, _, .cons r t, e => by
    cases x with
    | d y => cases y with
      | str b =>
        obtain ⟨l, e1, rfl⟩ := Option.map_eq_some_iff.mp (show (strsM xs).map (b :: ·) = _ from e)
        cases r.2
        rw [strs_ok t e1]; rfl
      | _ => cases e
    | _ => cases e
end
def gList1 {α : Type} (p : List Mv → Option α) (f : α → Nw) : Sg → List Mv → Option Nw := fun S xs => match xs with
  | [x] => (x.isList S).bind fun ys => (p ys).map f
  | _ => none
theorem list1_ok {α : Type} {p : List Mv → Option α} {f : α → Nw} {K : PySem.W.Frag} {ι : Io} {S : Sg} {H : Hp} {xs : List Mv} {vs : List V} {z : Nw} (hr : Rl K ι S H) (hx : XVs K ι H xs vs) (e : gList1 p f S xs = some z) :
    ∃ a ys ws c, vs = [.ref a] ∧ PlnL K H a ws ∧ XCs K ι H ys ws ∧ p ys = some c ∧ z = f c := by
  unfold gList1 at e
  split at e
  · obtain ⟨ys, e1, e2⟩ := Option.bind_eq_some_iff.mp e
    obtain ⟨c, e3, rfl⟩ := Option.map_eq_some_iff.mp e2
    obtain ⟨v, rfl, h⟩ := one_of hx
    obtain ⟨a, ws, rfl, h1, h2⟩ := Mv.isList_ok hr h e1
    exact ⟨a, ys, ws, c, rfl, h1, h2, e3, rfl⟩
  · cases e
def gAll := gList1 boolsM fun bs => .val (.d (.bool (bs.all id)))
def gAny := gList1 boolsM fun bs => .val (.d (.bool (bs.any id)))
def gSum := gList1 intsM fun ns => .val (.d (.int ns.sum))
theorem c_all (hc : X.calm = true) : CallP X (.builtin "all") gAll := by
  refine CallR.imp (cr_all hc) fun vs H Q ⟨ι, S, xs, z, hr, hx, e, q⟩ => ?_
  obtain ⟨a, ys, ws, c, rfl, h1, h2, e1, rfl⟩ := list1_ok hr hx e
  exact ⟨a, c, rfl, by rw [← bools_ok h2 e1]; exact h1.sq, q _ (.bl _)⟩
theorem c_any (hc : X.calm = true) : CallP X (.builtin "any") gAny := by
  refine CallR.imp (cr_any hc) fun vs H Q ⟨ι, S, xs, z, hr, hx, e, q⟩ => ?_
  obtain ⟨a, ys, ws, c, rfl, h1, h2, e1, rfl⟩ := list1_ok hr hx e
  exact ⟨a, c, rfl, by rw [← bools_ok h2 e1]; exact h1.sq, q _ (.bl _)⟩
theorem c_sum (hc : X.calm = true) : CallP X (.builtin "sum") gSum := by
  refine CallR.imp (cr_sum hc) fun vs H Q ⟨ι, S, xs, z, hr, hx, e, q⟩ => ?_
  obtain ⟨a, ys, ws, c, rfl, h1, h2, e1, rfl⟩ := list1_ok hr hx e
  exact ⟨a, c, rfl, by rw [← ints_ok h2 e1]; exact h1.sq, q _ (.int _)⟩
theorem paired_of {α β : Type} {F : α → β → Prop} : ∀ {xs : List α} {ys : List β}, xs.length = ys.length → (∀ (i : Nat) (x : α) (y : β), xs[i]? = some x → ys[i]? = some y → F x y) → Paired F xs ys
  | [], [], _, _ => .nil
  | [], _ :: _, h, _ => by cases h
  | _ :: _, [], h, _ => by cases h
  | x :: xs, y :: ys, h, f => .cons (f 0 x y rfl rfl) (paired_of (by simpa using h) fun i a b ha hb => f (i + 1) a b ha hb)
def signsV (z : Str) : List V := z.cps.toList.map fun c => V.str ⟨#[c]⟩
theorem signsV_vals {z : Str} {acc : Array Value} (h : ItemsOf (SignAt z) acc z.cps.size) : Vals (signsV z) acc.toList := by
  refine paired_of (by simp [signsV, h.1]) fun i x y hx hy => ?_
  obtain ⟨c, u, hc, rfl⟩ := h.2 i y (by simpa using hy)
  simp only [signsV, List.getElem?_map, Array.getElem?_toList, hc, Option.map_some, Option.some.injEq] at hx
  subst hx
  exact ⟨u, rfl⟩
theorem signs_xcs {K : PySem.W.Frag} {ι : Io} {H : Hp} (z : Str) : XCs K ι H (signs z) (signsV z) := by
  unfold signs signsV
  induction z.cps.toList with
  | nil => exact .nil
  | cons c r ih => exact .cons ⟨rfl, .str _⟩ ih
theorem call_list_signs (hc : X.calm = true) : CallR X (.type "list") (fun xs H Q => ∃ z, xs = [.str z] ∧ z.length ≤ sizeLine ∧ ∀ l, H l = none → Q (.ref l) (upd H l (.lst (signsV z)))) := by
  intro pins s σ H xs us Q I r ⟨z, ez, hz, q⟩
  subst ez
  obtain ⟨u, rfl, ru⟩ := vals1 r
  obtain ⟨t, rfl⟩ := ru
  refine call_list_str (I.ok.hd hc) z t (fun h' tk acc c kp e its => ?_) hz
  exact ⟨.ref s.heap.objs.size, _, I.laid (t' := tk) kp (Nat.le_refl _) (show ObjOk X.prog X.w _ h' _ (.lst (signsV z)) from ⟨by simp only [signsV, List.length_map, Array.length_toList]; exact hz, acc.toList, c, signsV_vals its, e⟩), rfl, q _ (I.hok.fresh (Nat.le_refl _))⟩
theorem call_tuple_signs (hc : X.calm = true) : CallR X (.type "tuple") (fun xs H Q => ∃ z, xs = [.str z] ∧ z.length ≤ sizeLine ∧ ∀ l, H l = none → Q (.ref l) (upd H l (.tup (signsV z)))) := by
  intro pins s σ H xs us Q I r ⟨z, ez, hz, q⟩
  subst ez
  obtain ⟨u, rfl, ru⟩ := vals1 r
  obtain ⟨t, rfl⟩ := ru
  refine call_tuple_str (I.ok.hd hc) z t (fun h' tk acc kp its => ?_) hz
  have I1 : Inv X pins σ H { s with heap := h', toks := tk } := I.kept (t' := tk) kp
  have I2 : Inv X pins σ (upd H h'.objs.size (.tup (signsV z))) { s with heap := h'.push { cls := .type "tuple", data := .seq acc }, toks := tk } :=
    I1.laid (t' := tk) (fun b o e => Heap.get?_push_of_some _ e) (Nat.le_refl _) (show ObjOk X.prog X.w _ _ _ (.tup (signsV z)) from ⟨by simp only [signsV, List.length_map, Array.length_toList]; exact hz, acc.toList, signsV_vals its, by simpa using IsTup.new _ _⟩)
  exact ⟨.ref h'.objs.size, _, I2, rfl, q _ (I1.hok.fresh (Nat.le_refl _))⟩
/-- list(xs) of a list, a tuple, a text -/
def gList : Sg → List Mv → Option Nw := fun S xs => match xs with
  | [.d (.str z)] => if z.length ≤ sizeLine then some (.lst (signs z)) else none
  | [x] => (x.seq S).map fun q => .lst q.2
  | _ => none
theorem c_list (hc : X.calm = true) : CallP X (.type "list") gList := by
  refine CallR.imp (CallR.or2 call_list_of (call_list_signs hc)) fun vs H Q ⟨ι, S, xs, z, hr, hx, e, q⟩ => ?_
  unfold gList at e
  split at e
  · rename_i y
    split at e
    · rename_i c
      cases e
      obtain ⟨v, rfl, h⟩ := one_of hx
      cases h
      exact .inr ⟨y, rfl, c, fun l hl => q _ l (signs_xcs y) hl⟩
    · cases e
  · obtain ⟨⟨t, ys⟩, e1, rfl⟩ := Option.map_eq_some_iff.mp e
    obtain ⟨v, rfl, h⟩ := one_of hx
    obtain ⟨a, ws, rfl, h1, h2⟩ := Mv.seq_ok hr h e1
    refine .inl ⟨a, ws, rfl, ?_, fun l hl => q ws l h2 hl⟩
    cases t with
    | true => exact .inr h1
    | false => exact .inl (PlnL.sq h1)
  · cases e
/-- tuple(xs) of a list, a tuple, a text -/
def gTuple : Sg → List Mv → Option Nw := fun S xs => match xs with
  | [.d (.str z)] => if z.length ≤ sizeLine then some (.tup (signs z)) else none
  | [x] => match x.seq S with
    | some (false, ys) => some (.tup ys)
    | some (true, _) => some (.val x)
    | none => none
  | _ => none
theorem c_tuple (hc : X.calm = true) : CallP X (.type "tuple") gTuple := by
  refine CallR.imp (CallR.or2 call_tuple_of (call_tuple_signs hc)) fun vs H Q ⟨ι, S, xs, z, hr, hx, e, q⟩ => ?_
  unfold gTuple at e
  split at e
  · rename_i y
    split at e
    · rename_i c
      cases e
      obtain ⟨v, rfl, h⟩ := one_of hx
      cases h
      exact .inr ⟨y, rfl, c, fun l hl => q _ l (signs_xcs y) hl⟩
    · cases e
  · obtain ⟨v, rfl, h⟩ := one_of hx
    split at e
    · rename_i ys e1
      cases e
      obtain ⟨a, ws, rfl, h1, h2⟩ := Mv.seq_ok hr h e1
      exact .inl ⟨a, ws, rfl, .inl ⟨PlnL.sq h1, fun l hl => q ws l h2 hl⟩⟩
    · rename_i ys e1
      cases e
      obtain ⟨a, ws, rfl, h1, h2⟩ := Mv.seq_ok hr h e1
      exact .inl ⟨a, ws, rfl, .inr ⟨h1, q _ h⟩⟩
    · cases e
  · cases e
/-- divmod by a small positive number -/
def gDivmod : Sg → List Mv → Option Nw := fun _ xs => match xs with
  | [.d (.int i), .d (.int j)] => if 0 < j ∧ j < 1073741824 then some (.tup [.d (.int (i / j)), .d (.int (i % j))]) else none
  | _ => none
theorem c_divmod : CallP X (.builtin "divmod") gDivmod := by
  refine CallR.imp call_divmod fun vs H Q ⟨ι, S, xs, z, hr, hx, e, q⟩ => ?_
  unfold gDivmod at e
  split at e
  · split at e
    · rename_i c
      cases e
      obtain ⟨v, u, rfl, h1, h2⟩ := two_of hx
      cases h1; cases h2
      exact ⟨_, _, rfl, c, fun p hp => q _ p (.cons ⟨rfl, .int _⟩ (.cons ⟨rfl, .int _⟩ .nil)) hp⟩
    · cases e
  · cases e
/-- isinstance by a built-in class -/
def Mv.kind (S : Sg) (x : Mv) : Option String := match x with
  | .d .none => some "NoneType"
  | .d (.bool _) => some "bool"
  | .d (.int _) => some "int"
  | .d (.str _) => some "str"
  | .d (.dict _) => some "dict"
  | x => (x.seq S).map fun q => if q.1 = true then "tuple" else "list"
theorem SqT_ty {K : PySem.W.Frag} {H : Hp} {a : Addr} {vs : List V} (h : SqT K H a vs) : TyX K H (.ref a) (.type "tuple") := by
  rcases h with (h | ⟨o, h⟩) | ⟨o, its, n, h1, h2, _⟩
  · exact .base (.tup h)
  · exact .fTuple h
  · exact .kTuple h1 h2
theorem PlnL_ty {K : PySem.W.Frag} {H : Hp} {a : Addr} {vs : List V} (h : PlnL K H a vs) : TyX K H (.ref a) (.type "list") := by
  rcases h with h | ⟨o, h⟩ | ⟨its, n, h1, _⟩
  · exact .base (.lst h)
  · exact .base (.frz h)
  · exact .kList h1 rfl
theorem Mv.kind_ok {K : PySem.W.Frag} {ι : Io} {S : Sg} {H : Hp} (hr : Rl K ι S H) {x : Mv} {v : V} (hx : XV K ι H x v) {t : String} (e : x.kind S = some t) : TyX K H v (.type t) := by
  have sq : ∀ b xs, x.seq S = some (b, xs) → t = (if b = true then "tuple" else "list") → TyX K H v (.type t) := by
    intro b xs e1 e2
    obtain ⟨a, vs, rfl, h1, h2⟩ := Mv.seq_ok hr hx e1
    subst e2
    cases b with
    | true => exact SqT_ty h1
    | false => exact PlnL_ty h1
  unfold Mv.kind at e
  split at e
  · cases e; cases hx; exact .base .non
  · cases e; cases hx; exact .base (.bl _)
  · cases e; cases hx; exact .base (.int _)
  · cases e; cases hx; exact .base (.str _)
  · cases e
    cases hx with
    | dct h _ => exact .fDict h
  · obtain ⟨⟨b, xs⟩, e1, e2⟩ := Option.map_eq_some_iff.mp e
    exact sq b xs e1 e2.symm
def gIsi : Sg → List Mv → Option Nw := fun S xs => match xs with
  | [x, .ty c] => (x.kind S).bind fun t => (kitB t c).map fun b => .val (.d (.bool b))
  | _ => none
theorem c_isi : CallP X (.builtin "isinstance") gIsi := by
  refine CallR.imp call_isi fun vs H Q ⟨ι, S, xs, z, hr, hx, e, q⟩ => ?_
  unfold gIsi at e
  split at e
  · obtain ⟨t, e1, e2⟩ := Option.bind_eq_some_iff.mp e
    obtain ⟨b, e3, rfl⟩ := Option.map_eq_some_iff.mp e2
    obtain ⟨v, u, rfl, h1, h2⟩ := two_of hx
    cases h2
    exact ⟨v, _, _, _, b, rfl, .ty _, Mv.kind_ok hr h1 e1, kit_ty e3, q _ (.bl _)⟩
  · cases e
/-! data that lies in no list and no dict -/
mutual
def thin : PyData → Bool
  | .none | .bool _ | .int _ | .str _ => true
  | .tuple xs => thinAll xs
  | _ => false
def thinAll : List PyData → Bool
  | [] => true
  | x :: xs => thin x && thinAll xs
end
mutual
theorem FD.thinReads {X : Cx} {pins : List (Addr × Obj)} {σ : L2.St} {H : Hp} {s : Shared} (I : Inv X pins σ H s) : ∀ {d : PyData} {v : V} {u : Value}, FD X.K H d v → RelV v u → thin d = true → Reads s.heap u d []
  | _, _, _, .non, r, _ => by cases r; exact .none
  | _, _, _, .bl b, r, _ => by cases r; exact .bool b
  | _, _, _, .int i, r, _ => by obtain ⟨t, rfl⟩ := r; exact .int i t
  | _, _, _, .str z, r, _ => by obtain ⟨t, rfl⟩ := r; exact .str z t
  | _, _, _, .lst _ _, _, e => by simp [thin] at e
  | _, _, _, .dct _ _, _, e => by simp [thin] at e
  | _, _, _, .tup h hs, r, e => by
    cases r
    obtain ⟨its, rv, ⟨o, ho, hc, n, hd⟩, _⟩ := I.tuple h
    exact .tuple ho hc hd (FDs.thinReads I hs rv (by simpa [thin] using e))
theorem FDs.thinReads {X : Cx} {pins : List (Addr × Obj)} {σ : L2.St} {H : Hp} {s : Shared} (I : Inv X pins σ H s) : ∀ {ds : List PyData} {vs : List V} {us : List Value}, FDs X.K H ds vs → Vals vs us → thinAll ds = true → ReadsAll s.heap us ds []
  | _, _, _, .nil, r, _ => by cases r; exact .nil
  | _, _, _, .cons h hs, r, e => by
    cases r with
    | cons r1 r2 =>
      simp only [thinAll, Bool.and_eq_true] at e
      exact ReadsAll.cons (as := []) (bs := []) (FD.thinReads I h r1 e.1) (FDs.thinReads I hs r2 e.2)
end
theorem FDk.pairs {X : Cx} {pins : List (Addr × Obj)} {σ : L2.St} {H : Hp} {s : Shared} (I : Inv X pins σ H s) : ∀ {ds : List (PyData × PyData)} {kvs : List (Key × V)} {vs : List (Key × Value)}, FDk X.K H ds kvs → KV kvs vs → (ds.all fun q => thin q.2) = true → PyProof.V.PairsRead s.heap keyD vs ds []
  | _, [], _, hk, r, _ => by cases hk; cases r; exact .nil
  | _, _ :: _, _, hk, r, e => by
    cases hk with | cons h hs =>
    cases r with
    | @cons a b as bs r1 r2 =>
      obtain ⟨b1, b2⟩ := b
      obtain ⟨e1, e2⟩ := r1
      simp only at e1 e2
      subst e1
      rw [List.all_cons, Bool.and_eq_true] at e
      exact PyProof.V.PairsRead.cons (as := []) (bs := []) (FD.thinReads I h e2 e.1) (FDk.pairs I hs r2 e.2)
theorem keyD_reads {P : Program} {w : World} {h : Heap} (k : Key) (key : Value) (e : (mixKind P w).is k key = true) : Reads h key (keyD k) [] := by
  rcases keyIs_shape e with ⟨i, t, rfl, rfl⟩ | ⟨x, t, rfl, rfl⟩
  · exact .int i t
  · exact .str x t
theorem FD.dictReads {X : Cx} {pins : List (Addr × Obj)} {σ : L2.St} {H : Hp} {s : Shared} (I : Inv X pins σ H s) {kvs : List (PyData × PyData)} {v : V} {u : Value} (h : FD X.K H (.dict kvs) v) (r : RelV v u) (e : (kvs.all fun q => thin q.2) = true) :
    ∃ a, u = .ref a ∧ sysModules ≠ a ∧ Reads s.heap u (.dict kvs) [a] := by
  cases h with
  | @dct a o ks ds ha hk =>
    cases r
    obtain ⟨_, ne, vs, kv, dd⟩ := dk_rd I.hok (Or.inr ⟨o, ha⟩)
    exact ⟨a, rfl, fun q => by rw [q] at ne; simp at ne, PyProof.V.reads_dictOf (bs := []) keyD_reads dd (FDk.pairs I hk kv e)⟩
/-- repr of data without dicts, of a dict of thin values -/
def shows (d : PyData) : Bool := match d with
  | .dict kvs => (kvs.all fun q => thin q.2) && decide (d.depth ≤ 64)
  | d => SeqAt.shaped d
def gRepr : Sg → List Mv → Option Nw := fun S xs => match xs with
  | [x] => (x.data S).bind fun d => if shows d = true ∧ d.showable = true ∧ d.shown.length ≤ sizeLine then some (.val (.d (.str d.shown))) else none
  | _ => none
theorem data_dict {S : Sg} {x : Mv} {kvs : List (PyData × PyData)} (e : x.data S = some (.dict kvs)) : x = .d (.dict kvs) := by
  unfold Mv.data at e
  split at e
  · cases e; rfl
  · split at e
    · obtain ⟨ds, _, e3⟩ := Option.map_eq_some_iff.mp e; cases e3
    · obtain ⟨ds, _, e3⟩ := Option.map_eq_some_iff.mp e; cases e3
    · cases e
theorem c_repr (gds : X.A.guards = some []) (hu : X.A.units + 128 < cLine) : CallP X (.builtin "repr") gRepr := by
  intro pins s σ H vs us Q I rel ⟨ι, S, xs, z, hr, hx, e, q⟩
  unfold gRepr at e
  split at e
  · obtain ⟨d, e1, e2⟩ := Option.bind_eq_some_iff.mp e
    split at e2
    · rename_i c
      cases e2
      obtain ⟨c0, c2, c3⟩ := c
      obtain ⟨v, rfl, h⟩ := one_of hx
      obtain ⟨u, rfl, ru⟩ := vals1 rel
      by_cases hdd : ∃ kvs, d = .dict kvs
      · obtain ⟨kvs, rfl⟩ := hdd
        have ex := data_dict e1
        subst ex
        simp only [shows, Bool.and_eq_true, decide_eq_true_eq] at c0
        obtain ⟨a, rfl, ne, rd⟩ := FD.dictReads I h ru c0.1
        exact repr_of_reads' rd c2 (fun _ hm => ne (List.mem_singleton.mp hm)) gds (by omega) (fun _ _ h => h) (fun h' u tk k => ⟨.str _, H, I.kept k, ⟨u, rfl⟩, q _ (.str _)⟩) c3
      have c1 : SeqAt.shaped d = true := by
        unfold shows at c0
        split at c0
        · exact absurd ⟨_, rfl⟩ hdd
        · exact c0
      have dp := Mv.data_ok hr h e1 c1
      obtain ⟨as, rd⟩ := Dp.reads I d v u dp ru
      have depth := SeqAt.depth_of_shaped c1
      have tell : ∀ (h' : Heap) (t : Tok) (tk : Nat), (∀ b o, s.heap.get? b = some o → h'.get? b = some o) → EP X pins σ Q (.str d.shown t) { s with heap := h', toks := tk } :=
        fun h' t tk k => ⟨.str d.shown, H, I.kept k, ⟨t, rfl⟩, q _ (.str _)⟩
      cases rd with
      | none => exact PySem.P.repr_of_none (tell s.heap _ _ fun _ _ h => h)
      | bool b => exact PySem.P.repr_of_bool (tell s.heap _ _ fun _ _ h => h)
      | int i t => exact PySem.P.repr_of_int (by simpa [PyData.showable] using c2) (tell s.heap _ _ fun _ _ h => h)
      | str y t => exact PySem.P.repr_of_str (tell s.heap _ _ fun _ _ h => h) c3
      | list h1 h2 h3 h4 =>
        exact repr_of_reads' (Reads.list h1 h2 h3 h4) c2 (PyData.noDict_hsm (noDict_of_shaped c1)) gds (by omega) (fun _ _ h => h) (fun h' u tk k => tell h' u tk k) c3
      | tuple h1 h2 h3 h4 =>
        exact repr_of_reads' (Reads.tuple h1 h2 h3 h4) c2 (PyData.noDict_hsm (noDict_of_shaped c1)) gds (by omega) (fun _ _ h => h) (fun h' u tk k => tell h' u tk k) c3
      | dict _ _ _ _ _ => exact absurd (noDict_of_shaped c1) (by simp [PyData.hasDict])
    · cases e2
  · cases e

/-! ### subscripts and slices -/
def atM (xs : List Mv) (i : Int) : Option Mv := atI xs i
theorem atI_paired {α β : Type} {F : α → β → Prop} {xs : List α} {ys : List β} (h : Paired F xs ys) {i : Int} {x : α} (e : atI xs i = some x) : ∃ y, atI ys i = some y ∧ F x y := by
  unfold atI at e ⊢
  obtain ⟨j, e1, e2⟩ := Option.bind_eq_some_iff.mp e
  obtain ⟨y, e3, r⟩ := Paired.at h e2
  exact ⟨y, by rw [← h.length, e1]; exact e3, r⟩
def gIx : Sg → Mv → Mv → Option Mv := fun S x y => match x, y with
  | .d (.str z), .d (.int i) => if z.length ≤ sizeLine then (atI z.cps.toList i).map fun c => .d (.str ⟨#[c]⟩) else none
  | x, .d (.int i) => (x.seq S).bind fun q => atI q.2 i
  | _, _ => none
def mIx (a b : ME) : ME := fun ρ S => (a ρ S).bind fun x S1 => (b ρ S1).bind fun y S2 => match gIx S2 x y with | some z => .ok z S2 | none => .bad
theorem pm_ix {a b : Expr} {ma mb : ME} {pos : Pos} (ha : PM X W a ma) (hb : PM X W b mb) (hs : PlainIx b := by exact fun _ _ => rfl) : PM X W (.Subscript a b pos) (mIx ma mb) := by
  refine pe_imp (pe_ix ix_seq ha hb hs) fun σ H Q ⟨ι, S, ρ, hl, hr, h⟩ => ?_
  refine ⟨ι, S, ρ, hl, hr, step h fun x v ι1 H1 S1 s1 r1 hx h1 => ?_⟩
  refine ⟨ι1, S1, ρ, hl.mono s1, r1, step h1 fun y u ι2 H2 S2 s2 r2 hy h2 => ?_⟩
  have hx := hx.mono s2
  cases e : gIx S2 x y with
  | none => simp only [e] at h2; exact h2.elim
  | some z =>
    simp only [e] at h2
    have h3 : ∀ w, XV X.K ι2 H2 z w → Q w H2 := fun w hw => h2 _ _ _ (Sub.refl _ _) r2 hw
    unfold gIx at e
    split at e
    · split at e
      · rename_i c
        obtain ⟨c0, e1, rfl⟩ := Option.map_eq_some_iff.mp e
        cases hx; cases hy
        exact .inr (.inr ⟨_, _, c0, rfl, rfl, c, e1, h3 _ (.str _)⟩)
      · cases e
    · obtain ⟨⟨t, xs⟩, e1, e2⟩ := Option.bind_eq_some_iff.mp e
      obtain ⟨a, vs, rfl, h4, h5⟩ := Mv.seq_ok r2 hx e1
      obtain ⟨w, e3, r⟩ := atI_paired h5 e2
      cases hy
      cases t with
      | true => exact .inr (.inl ⟨a, vs, _, w, rfl, rfl, h4, e3, h3 w r.2⟩)
      | false => exact .inl ⟨a, vs, _, w, rfl, rfl, PlnL.sq h4, e3, h3 w r.2⟩
    · cases e
/-- a slice's parts -/
abbrev MO := Rho → Sg → Res (Option Int)
abbrev RO : Io → Hp → Option Int → Option Int → Prop := fun _ _ b c => b = c
def PMO (X : Cx) (W : WX) (e : Option Expr) (m : MO) : Prop := PO X e (tG RO X.K W m)
theorem po_imp {e : Option Expr} {t t' : TO} (h : PO X e t) (i : ∀ σ H Q, t' σ H Q → t σ H Q) : PO X e t' := ⟨fun pins s σ H Q I q => h.run pins s σ H Q I (i _ _ _ q)⟩
def mON : MO := fun _ S => .ok none S
def mOS (m : ME) : MO := fun ρ S => (m ρ S).bind fun x S1 => match x with | .d (.int i) => .ok (some i) S1 | _ => .bad
theorem pmo_none : PMO X W none mON := po_imp po_none fun σ H Q ⟨ι, S, ρ, hl, hr, h⟩ => h _ _ _ (Sub.refl _ _) hr rfl
theorem pmo_some {e : Expr} {m : ME} (h : PM X W e m) : PMO X W (some e) (mOS m) := by
  refine po_imp (po_some h) fun σ H Q ⟨ι, S, ρ, hl, hr, h⟩ => ⟨ι, S, ρ, hl, hr, step h fun x v ι1 H1 S1 s1 r1 hx h1 => ?_⟩
  split at h1
  · cases hx
    exact ⟨_, rfl, h1 _ _ _ (Sub.refl _ _) r1 rfl⟩
  · exact h1.elim
def cutM (xs : List Mv) (lo hi : Option Int) : List Mv := (xs.drop (HT.sIx xs.length 0 lo)).take (HT.sIx xs.length xs.length hi - HT.sIx xs.length 0 lo)
theorem Paired.drop {α β : Type} {F : α → β → Prop} : ∀ {xs : List α} {ys : List β} (n : Nat), Paired F xs ys → Paired F (xs.drop n) (ys.drop n)
  | _, _, 0, r => r
  | _, _, _ + 1, .nil => .nil
  | _, _, n + 1, .cons _ t => Paired.drop n t
theorem Paired.take {α β : Type} {F : α → β → Prop} : ∀ {xs : List α} {ys : List β} (n : Nat), Paired F xs ys → Paired F (xs.take n) (ys.take n)
  | _, _, 0, _ => .nil
  | _, _, _ + 1, .nil => .nil
  | _, _, n + 1, .cons r t => .cons r (Paired.take n t)
theorem cut_paired {F : Mv → V → Prop} {xs : List Mv} {ys : List V} (h : Paired F xs ys) (lo hi : Option Int) : Paired F (cutM xs lo hi) (cutV ys lo hi) := by
  unfold cutM cutV
  rw [h.length]
  exact Paired.take _ (Paired.drop _ h)
/-- a tuple's slice that is not the whole of it makes a new one; the whole is itself -/
def gSl (S : Sg) (x : Mv) (lo hi : Option Int) : Option Nw := match x with
  | .d (.str z) => if z.length ≤ sizeLine then some (.val (.d (.str (cutS z lo hi)))) else none
  | x => match x.isList S with | some xs => some (.lst (cutM xs lo hi)) | none => none
def mSl (b : Bi) (a : ME) (lo hi : MO) : ME := fun ρ S => (a ρ S).bind fun x S1 => (lo ρ S1).bind fun l S2 => (hi ρ S2).bind fun u S3 => opt (gSl S3 x l u) fun z => bear b z S3
theorem pm_sl {e : Expr} {lo hi : Option Expr} {m : ME} {ml mh : MO} {p2 pos : Pos} (b : Bi) (h : PM X W e m) (hl : PMO X W lo ml) (hh : PMO X W hi mh) : PM X W (.Subscript e (.Slice lo hi none p2) pos) (mSl b m ml mh) := by
  refine pe_imp (pe_b b (pe_slice (SlR.or sl_list sl_str) h hl hh)) fun σ H Q ⟨ι, S, ρ, hL, hr, h⟩ => ?_
  refine ⟨ι, S, ρ, hL, hr, step h fun x v ι1 H1 S1 s1 r1 hx h1 => ?_⟩
  refine ⟨ι1, S1, ρ, hL.mono s1, r1, step h1 fun l l' ι2 H2 S2 s2 r2 el h2 => ?_⟩
  refine ⟨ι2, S2, ρ, (hL.mono s1).mono s2, r2, step h2 fun u u' ι3 H3 S3 s3 r3 eu h3 => ?_⟩
  cases el; cases eu
  have hx := (hx.mono s2).mono s3
  unfold opt at h3
  cases e : gSl S3 x l u with
  | none => rw [e] at h3; exact h3.elim
  | some z =>
    rw [e] at h3
    have q := bear_raw r3 h3
    unfold gSl at e
    split at e
    · split at e
      · rename_i c
        cases e; cases hx
        exact .inr ⟨_, rfl, c, q _ (.str _)⟩
      · cases e
    · split at e
      · rename_i xs e1
        cases e
        obtain ⟨a, vs, rfl, h4, h5⟩ := Mv.isList_ok r3 hx e1
        exact .inl ⟨a, vs, rfl, h4.sq, fun p hp => q _ p (cut_paired h5 l u) hp⟩
      · cases e
theorem filt_all {α : Type} (a : Array α) : (List.range a.size).filterMap (a[·]?) = a.toList := by
  have key : ∀ n, n ≤ a.size → (List.range n).filterMap (a[·]?) = a.toList.take n := by
    intro n
    induction n with
    | zero => intro _; simp
    | succ n ih =>
      intro hn
      rw [List.range_succ, List.filterMap_append, ih (by omega), List.take_add_one]
      have : a[n]? = a.toList[n]? := by simp
      simp only [List.filterMap_cons, List.filterMap_nil, this]
      cases a.toList[n]? <;> rfl
  rw [key a.size (Nat.le_refl _)]
  exact List.take_of_length_le (by simp)
/-- turned about: a list, a text -/
def revS (z : Str) : Str := ⟨z.cps.toList.reverse.toArray⟩
theorem Paired.reverse {α β : Type} {F : α → β → Prop} {xs : List α} {ys : List β} (h : Paired F xs ys) : Paired F xs.reverse ys.reverse := by
  induction h with
  | nil => exact .nil
  | cons r t ih => rw [List.reverse_cons, List.reverse_cons]; exact ih.snoc r
def tRevS (te : TE) : TE := fun σ H Q => te σ H fun x H1 => ∃ z, x = .str z ∧ z.length ≤ sizeLine ∧ Q (.str (revS z)) H1
theorem pe_revS {e : Expr} {te : TE} {k : Nat} {p1 p2 p3 pos : Pos} (he : PE X e te) : PE X (.Subscript e (.Slice none none (some (.UnaryOp .USub (.Constant (.int 1) k p1) p2)) p3) pos) (tRevS te) := by
  refine ⟨fun pins s σ H Q I want => ?_⟩
  refine Subscript_ (thn (he.run pins s σ H _ I want) fun v s1 ⟨x, H1, I1, rel, z, ex, hz, q⟩ => ?_)
  subst ex
  obtain ⟨t, rfl⟩ := rel
  have one : PO X (some (.UnaryOp .USub (.Constant (.int 1) k p1) p2)) (tPart (tUn (rU fun i => .int (-i)) (tC (.int 1)))) := po_some (pe_un un_neg pe_int)
  refine wpAny_Slice (thn (po_none.run pins s1 σ H1 (fun o G => o = none ∧ G = H1) I1 ⟨rfl, rfl⟩) fun v1 s2 ⟨o1, G2, I2, part1, o1e, g2⟩ => ?_)
  subst o1e g2
  refine thn (po_none.run pins s2 σ G2 (fun o G => o = none ∧ G = G2) I2 ⟨rfl, rfl⟩) fun v2 s3 ⟨o2, G3, I3, part2, o2e, g3⟩ => ?_
  subst o2e g3
  refine thn (one.run pins s3 σ G3 (fun o G => o = some (-1) ∧ G = G3) I3 ⟨1, rfl, -1, rfl, rfl, rfl⟩) fun v3 s4 ⟨o3, G4, I4, part3, o3e, g4⟩ => ?_
  subst o3e g4
  obtain ⟨l1, rfl, m1⟩ := IsPart.raw part1
  obtain ⟨l2, rfl, m2⟩ := IsPart.raw part2
  obtain ⟨l3, rfl, m3⟩ := IsPart.raw part3
  have J : Inv X pins σ G4 { s4 with heap := s4.heap.push { cls := .type "slice", data := .fields #[partValue l1, partValue l2, partValue l3] } } := I4.kept (t' := s4.toks) fun b ob e => Heap.get?_push_of_some _ e
  show wpAny (model X.prog X.w) X.A (subscriptTail e (.Slice none none (some (.UnaryOp .USub (.Constant (.int 1) k p1) p2)) p3) (.str z t) (.ref s4.heap.objs.size)) (EP X pins σ Q) X.xe { s4 with heap := s4.heap.push { cls := .type "slice", data := .fields #[partValue l1, partValue l2, partValue l3] } }
  refine tail_any (ops := [.str z t, .ref s4.heap.objs.size]) (typeIs_str _ _ _) PySem.F.slot_str_getitem.lookup ?_ (by with_unfolding_all rfl)
  refine wpAny_getItem_str_slice (l := l1) (u := l2) (st := l3) ⟨_, Heap.get?_push_size _ rfl, rfl, rfl⟩ (by rw [m3]; rfl) ?_
  have pick : ((slicePicked z l1 l2 l3).filterMap (z.cps[·]?)).toArray = z.cps.toList.reverse.toArray := by
    unfold slicePicked
    rw [m1, m2, m3]
    show ((sliceRange ((z.length : Int) - 1) (-1) (-1)).filterMap (z.cps[·]?)).toArray = _
    have := PySem.W.krv_pick
    rw [PySem.W.krv_sliceRange, PySem.W.krv_range, List.filterMap_reverse]
    congr 2
    show (List.range z.cps.size).filterMap (z.cps[·]?) = z.cps.toList
    exact filt_all z.cps
  unfold sliceMade
  rw [m3, pick]
  exact ⟨by show z.cps.toList.reverse.toArray.size ≤ sizeLine; simpa [Str.length] using hz, .str (revS z), G4, J.tok _, ⟨_, rfl⟩, q⟩
end
end MM
end
section
set_option Elab.async false
set_option linter.all false
set_option maxRecDepth 100000
set_option maxHeartbeats 4000000
set_option autoImplicit false
namespace MM
open PySem PySem.Spec PyProof.Rows L2

section
variable {X : Cx} {W : WX}
/-! ### turned about -/
theorem pe_or {e : Expr} {t t' : TE} (h : PE X e t) (h' : PE X e t') : PE X e (fun σ H Q => t σ H Q ∨ t' σ H Q) := ⟨fun pins s σ H Q I q => by
  rcases q with q | q
  · exact h.run pins s σ H Q I q
  · exact h'.run pins s σ H Q I q⟩
def mRev (b : Bi) (m : ME) : ME := fun ρ S => (m ρ S).bind fun x S1 => match x with
  | .d (.str z) => if z.length ≤ sizeLine then .ok (.d (.str (revS z))) S1 else .bad
  | x => match x.isList S1 with | some xs => bear b (.lst xs.reverse) S1 | none => .bad
theorem pm_rev {e : Expr} {m : ME} {k : Nat} {p1 p2 p3 pos : Pos} (b : Bi) (h : PM X W e m) : PM X W (.Subscript e (.Slice none none (some (.UnaryOp .USub (.Constant (.int 1) k p1) p2)) p3) pos) (mRev b m) := by
  refine pe_imp (pe_or (pe_revS h) (pe_b b (pe_revL h))) fun σ H Q ⟨ι, S, ρ, hl, hr, h⟩ => ?_
  cases em : m ρ S with
  | bad => unfold mRev at h; rw [em] at h; exact h.elim
  | exc ex S' =>
    unfold mRev at h; rw [em] at h
    exact .inl ⟨ι, S, ρ, hl, hr, by rw [em]; exact h⟩
  | ok x S1 =>
    unfold mRev at h; rw [em] at h
    simp only [Res.bind] at h
    split at h
    · rename_i z
      split at h
      · rename_i c
        refine .inl ⟨ι, S, ρ, hl, hr, ?_⟩
        rw [em]
        intro ι1 H1 v s1 r1 hx
        cases hx
        exact ⟨_, rfl, c, h _ _ _ s1 r1 (.str _)⟩
      · exact h.elim
    · split at h
      · rename_i xs e1
        refine .inr ⟨ι, S, ρ, hl, hr, ?_⟩
        rw [em]
        intro ι1 H1 v s1 r1 hx
        obtain ⟨a, vs, rfl, h1, h2⟩ := Mv.isList_ok r1 hx e1
        exact ⟨a, vs, rfl, h1.sq, fun p hp => bear_raw (n := .lst xs.reverse) r1 (h.sub s1) _ p (Paired.reverse h2) hp⟩
      · exact h.elim

/-! ### methods of built-in things -/
def tyM (T : String) (x : Mv) (S : Sg) : Bool := match x with
  | .d (.str _) => T == "str"
  | x => match x.isList S with | some _ => T == "list" | none => false
theorem tyM_ok {K : PySem.W.Frag} {ι : Io} {S : Sg} {H : Hp} (hr : Rl K ι S H) {T : String} {x : Mv} {v : V} (hx : XV K ι H x v) (e : tyM T x S = true) : tyV K T v H := by
  unfold tyM at e
  split at e
  · cases hx
    exact (beq_iff_eq.mp e)
  · split at e
    · rename_i xs e1
      obtain ⟨a, vs, rfl, h1, h2⟩ := Mv.isList_ok hr hx e1
      exact .inl ⟨beq_iff_eq.mp e, vs, h1.sq⟩
    · cases e
/-- what is told, the store as it is -/
def MtP (X : Cx) (id : String) (g : Sg → Mv → List Mv → Option Nw) : Prop :=
  MtR X id fun v vs H Q => ∃ ι S x xs z, Rl X.K ι S H ∧ XV X.K ι H x v ∧ XVs X.K ι H xs vs ∧ g S x xs = some z ∧ Raw X.K ι H Q z
/-- what is told, and the store behind -/
def MtU (X : Cx) (id : String) (g : Sg → Mv → List Mv → Option (Mv × Sg)) : Prop :=
  MtR X id fun v vs H Q => ∃ ι S x xs z S', Rl X.K ι S H ∧ XV X.K ι H x v ∧ XVs X.K ι H xs vs ∧ g S x xs = some (z, S') ∧ ∀ H' w, Sub ι H ι H' → Rl X.K ι S' H' → XV X.K ι H' z w → Q w H'
theorem MtR.imp {id : String} {r r' : V → List V → Hp → VK → Prop} (h : MtR X id r) (i : ∀ x xs H Q, r' x xs H Q → r x xs H Q) : MtR X id r' := fun pins s σ H x xs v us Q I rx rs q => h pins s σ H x xs v us Q I rx rs (i _ _ _ _ q)
def mBM (b : Bi) (T : String) (g : Sg → Mv → List Mv → Option Nw) (o : ME) (a : MA) : ME := fun ρ S => (o ρ S).bind fun x S1 => if tyM T x S1 = true then (a ρ S1).bind fun xs S2 => opt (g S2 x xs) fun z => bear b z S2 else .bad
def mBU (T : String) (g : Sg → Mv → List Mv → Option (Mv × Sg)) (o : ME) (a : MA) : ME := fun ρ S => (o ρ S).bind fun x S1 => if tyM T x S1 = true then (a ρ S1).bind fun xs S2 => match g S2 x xs with | some (z, S') => .ok z S' | none => .bad else .bad
theorem bm_core {T : String} {g : Sg → Mv → List Mv → Option Nw} {mo : ME} {ma : MA} {b : Bi} {σ : L2.St} {H : Hp} {Q : VK} (h : tG (XV X.K) X.K W (mBM b T g mo ma) σ H Q) :
    tBM X.K T (fun v vs H Q => ∃ ι S x xs z, Rl X.K ι S H ∧ XV X.K ι H x v ∧ XVs X.K ι H xs vs ∧ g S x xs = some z ∧ Raw X.K ι H Q z) (tG (XV X.K) X.K W mo) (tG (XVs X.K) X.K W ma) σ H (Qf b Q) := by
  obtain ⟨ι, S, ρ, hl, hr, h⟩ := h
  refine ⟨ι, S, ρ, hl, hr, step h fun x v ι1 H1 S1 s1 r1 hx h1 => ?_⟩
  by_cases c : tyM T x S1 = true
  · rw [if_pos c] at h1
    refine ⟨tyM_ok r1 hx c, ι1, S1, ρ, hl.mono s1, r1, step h1 fun xs vs ι2 H2 S2 s2 r2 hs h2 => ?_⟩
    unfold opt at h2
    cases e : g S2 x xs with
    | none => rw [e] at h2; exact h2.elim
    | some z =>
      rw [e] at h2
      exact ⟨ι2, S2, x, xs, z, r2, hx.mono s2, hs, e, bear_raw r2 h2⟩
  · rw [if_neg c] at h1; exact h1.elim
theorem bu_core {T : String} {g : Sg → Mv → List Mv → Option (Mv × Sg)} {mo : ME} {ma : MA} {σ : L2.St} {H : Hp} {Q : VK} (h : tG (XV X.K) X.K W (mBU T g mo ma) σ H Q) :
    tBM X.K T (fun v vs H Q => ∃ ι S x xs z S', Rl X.K ι S H ∧ XV X.K ι H x v ∧ XVs X.K ι H xs vs ∧ g S x xs = some (z, S') ∧ ∀ H' w, Sub ι H ι H' → Rl X.K ι S' H' → XV X.K ι H' z w → Q w H') (tG (XV X.K) X.K W mo) (tG (XVs X.K) X.K W ma) σ H Q := by
  obtain ⟨ι, S, ρ, hl, hr, h⟩ := h
  refine ⟨ι, S, ρ, hl, hr, step h fun x v ι1 H1 S1 s1 r1 hx h1 => ?_⟩
  by_cases c : tyM T x S1 = true
  · rw [if_pos c] at h1
    refine ⟨tyM_ok r1 hx c, ι1, S1, ρ, hl.mono s1, r1, step h1 fun xs vs ι2 H2 S2 s2 r2 hs h2 => ?_⟩
    cases e : g S2 x xs with
    | none => simp only [e] at h2; exact h2.elim
    | some p =>
      obtain ⟨z, S'⟩ := p
      simp only [e] at h2
      exact ⟨ι2, S2, x, xs, z, S', r2, hx.mono s2, hs, e, fun H' w s r hz => h2 _ _ _ s r hz⟩
  · rw [if_neg c] at h1; exact h1.elim
section
variable {o e : Expr} {es : List Expr} {name : Str} {apos cpos : Pos} {T id : String} {mo : ME} {ma : MA}
theorem pm_bm {g : Sg → Mv → List Mv → Option Nw} (b : Bi) (pa : PlainAttrs T) (slot : Slot T name id) (hty : typeOf (.builtin id) = pure (.type "method_descriptor")) (hm : MtP X id g) (ho : PM X W o mo) (ha : PL X W (e :: es) ma)
    (hbase : attributeBase o name X.env (eval o X.env) = eval o X.env := by rfl)
    (hfew : ((backTo cpos (starEach (e :: es) X.env)).all (fun x => !x.1) && (backToKw cpos (keywordEach [] X.env)).all (fun x => x.1.isSome) && decide ((e :: es).length + ([] : List Keyword).length + (if ([] : List Keyword).isEmpty then 0 else 1) < 30)) = true := by rfl)
    (hline : (apos.endLine == cpos.line) = true := by rfl) (hs : starEach (e :: es) X.env = (false, eval e X.env) :: starEach es X.env := by rfl) (hplain : (backTo cpos (starEach es X.env)).any (·.1) = false := by rfl) :
    PM X W (.Call (.Attribute o name apos) (e :: es) [] cpos) (mBM b T g mo ma) :=
  pe_imp (pe_b b (pe_bm pa slot hty hm ho ha hbase hfew hline hs hplain)) fun σ H Q h => bm_core h
theorem pm_bu {g : Sg → Mv → List Mv → Option (Mv × Sg)} (pa : PlainAttrs T) (slot : Slot T name id) (hty : typeOf (.builtin id) = pure (.type "method_descriptor")) (hm : MtU X id g) (ho : PM X W o mo) (ha : PL X W (e :: es) ma)
    (hbase : attributeBase o name X.env (eval o X.env) = eval o X.env := by rfl)
    (hfew : ((backTo cpos (starEach (e :: es) X.env)).all (fun x => !x.1) && (backToKw cpos (keywordEach [] X.env)).all (fun x => x.1.isSome) && decide ((e :: es).length + ([] : List Keyword).length + (if ([] : List Keyword).isEmpty then 0 else 1) < 30)) = true := by rfl)
    (hline : (apos.endLine == cpos.line) = true := by rfl) (hs : starEach (e :: es) X.env = (false, eval e X.env) :: starEach es X.env := by rfl) (hplain : (backTo cpos (starEach es X.env)).any (·.1) = false := by rfl) :
    PM X W (.Call (.Attribute o name apos) (e :: es) [] cpos) (mBU T g mo ma) :=
  pe_imp (pe_bm pa slot hty hm ho ha hbase hfew hline hs hplain) fun σ H Q h => bu_core h
theorem pm_bu0 {g : Sg → Mv → List Mv → Option (Mv × Sg)} (pa : PlainAttrs T) (slot : Slot T name id) (hty : typeOf (.builtin id) = pure (.type "method_descriptor")) (hm : MtU X id g) (ho : PM X W o mo)
    (hbase : attributeBase o name X.env (eval o X.env) = eval o X.env := by rfl) (hline : (apos.endLine == cpos.line) = true := by rfl) : PM X W (.Call (.Attribute o name apos) [] [] cpos) (mBU T g mo mNil) := by
  refine pe_imp (pe_bm0 pa slot hty hm ho hbase hline) fun σ H Q h => ?_
  obtain ⟨ι, S, ρ, hl, hr, h⟩ := bu_core h
  refine ⟨ι, S, ρ, hl, hr, h.imp fun v H1 ⟨h1, h2⟩ => ⟨h1, ?_⟩⟩
  obtain ⟨ι2, S2, ρ2, _, r2, h3⟩ := h2
  exact h3 _ _ _ (Sub.refl _ _) r2 .nil
theorem pm_bm0 {g : Sg → Mv → List Mv → Option Nw} (b : Bi) (pa : PlainAttrs T) (slot : Slot T name id) (hty : typeOf (.builtin id) = pure (.type "method_descriptor")) (hm : MtP X id g) (ho : PM X W o mo)
    (hbase : attributeBase o name X.env (eval o X.env) = eval o X.env := by rfl) (hline : (apos.endLine == cpos.line) = true := by rfl) : PM X W (.Call (.Attribute o name apos) [] [] cpos) (mBM b T g mo mNil) := by
  refine pe_imp (pe_b b (pe_bm0 pa slot hty hm ho hbase hline)) fun σ H Q h => ?_
  obtain ⟨ι, S, ρ, hl, hr, h⟩ := bm_core h
  refine ⟨ι, S, ρ, hl, hr, h.imp fun v H1 ⟨h1, h2⟩ => ⟨h1, ?_⟩⟩
  obtain ⟨ι2, S2, ρ2, _, r2, h3⟩ := h2
  exact h3 _ _ _ (Sub.refl _ _) r2 .nil
end
/-- a cell that a value names -/
def Mv.cell (S : Sg) (x : Mv) : Option (Nat × Bool × Mo) := match x with
  | .ref i => match S[i]? with | some (false, o) => some (i, false, o) | _ => none
  | .own i => match S[i]? with | some (true, o) => some (i, true, o) | _ => none
  | _ => none
theorem Mv.cell_ok {K : PySem.W.Frag} {ι : Io} {S : Sg} {H : Hp} (hr : Rl K ι S H) {x : Mv} {v : V} (hx : XV K ι H x v) {i : Nat} {b : Bool} {o : Mo} (e : x.cell S = some (i, b, o)) : ∃ a, v = .ref a ∧ ι[i]? = some (b, a) ∧ S[i]? = some (b, o) ∧ OV K ι H a o := by
  unfold Mv.cell at e
  split at e
  · obtain ⟨a, h1, rfl⟩ := hx
    split at e
    · rename_i e1
      cases e
      exact ⟨a, rfl, h1, e1, hr.cell _ _ _ _ e1 h1⟩
    · cases e
  · obtain ⟨a, h1, rfl⟩ := hx
    split at e
    · rename_i e1
      cases e
      exact ⟨a, rfl, h1, e1, hr.cell _ _ _ _ e1 h1⟩
    · cases e
  · cases e
def uAppend : Sg → Mv → List Mv → Option (Mv × Sg) := fun S x xs => match xs with
  | [y] => match x.cell S with
    | some (i, b, .lst zs) => if y.free = true ∧ zs.length < sizeLine then some (.d .none, S.set i (b, .lst (zs ++ [y]))) else none
    | _ => none
  | _ => none
theorem XCs.upd1 {K : PySem.W.Frag} {ι : Io} {H : Hp} {a : Addr} {u v : HO} {xs : List Mv} {vs : List V} (hv : H a = some v) (m : Mut (some v)) (h : XCs K ι H xs vs) : XCs K ι (upd H a u) xs vs := XCs.grown ⟨[], (List.append_nil _).symm⟩ (Grow.write hv m) h
theorem XC.upd1 {K : PySem.W.Frag} {ι : Io} {H : Hp} {a : Addr} {u v : HO} {x : Mv} {w : V} (hv : H a = some v) (m : Mut (some v)) (h : XC K ι H x w) : XC K ι (upd H a u) x w := ⟨h.1, h.2.grown ⟨[], (List.append_nil _).symm⟩ (Grow.write hv m)⟩
theorem u_append : MtU X "list.append" uAppend := by
  refine MtR.imp mt_append fun v vs H Q ⟨ι, S, x, xs, z, S', hr, hx, hxs, e, q⟩ => ?_
  unfold uAppend at e
  split at e
  · rename_i y
    split at e
    · rename_i i b zs e1
      split at e
      · rename_i c
        cases e
        obtain ⟨a, rfl, h1, h2, ws, h3, h4⟩ := Mv.cell_ok hr hx e1
        obtain ⟨w, rfl, hy⟩ := one_of hxs
        obtain ⟨r2, s2⟩ := hr.put (u := .lst (ws ++ [w])) (o := .lst (zs ++ [y])) ⟨_, h2⟩ h1 h3 trivial ⟨_, upd_same, Paired.append (XCs.upd1 h3 trivial h4) (.cons (XC.upd1 h3 trivial ⟨c.1, hy⟩) .nil)⟩
        exact ⟨a, ws, w, rfl, rfl, h3, by rw [← h4.length]; exact c.2, q _ _ s2 r2 .non⟩
      · cases e
    · cases e
  · cases e
theorem Paired.dropLast {α β : Type} {F : α → β → Prop} : ∀ {xs : List α} {ys : List β}, Paired F xs ys → Paired F xs.dropLast ys.dropLast
  | _, _, .nil => .nil
  | _, _, .cons _ .nil => .nil
  | _, _, .cons r (.cons r2 t) => .cons r (Paired.dropLast (.cons r2 t))
def uPop : Sg → Mv → List Mv → Option (Mv × Sg) := fun S x xs => match xs with
  | [] => match x.cell S with
    | some (i, b, .lst zs) => (zs[zs.length - 1]?).map fun y => (y, S.set i (b, .lst zs.dropLast))
    | _ => none
  | [.d (.int k)] => match x.cell S with
    | some (i, b, .lst zs) => if -(2 ^ 63) ≤ k ∧ k < 2 ^ 63 then (seqIndex? k zs.length).bind fun j => (zs[j]?).map fun y => (y, S.set i (b, .lst (zs.eraseIdx j))) else none
    | _ => none
  | _ => none
theorem Paired.erase {α β : Type} {F : α → β → Prop} : ∀ {xs : List α} {ys : List β} (n : Nat), Paired F xs ys → Paired F (xs.eraseIdx n) (ys.eraseIdx n)
  | _, _, _, .nil => .nil
  | _, _, 0, .cons r t => t
  | _, _, n + 1, .cons r t => .cons r (Paired.erase n t)
theorem MtR.or2 {id : String} {r r' : V → List V → Hp → VK → Prop} (h : MtR X id r) (h' : MtR X id r') : MtR X id (fun x xs H Q => r x xs H Q ∨ r' x xs H Q) := fun pins s σ H x xs v us Q I rx rs q => by
  rcases q with q | q
  · exact h pins s σ H x xs v us Q I rx rs q
  · exact h' pins s σ H x xs v us Q I rx rs q
theorem u_pop : MtU X "list.pop" uPop := by
  refine MtR.imp (MtR.or2 mt_pop mt_popAt) fun v vs H Q ⟨ι, S, x, xs, z, S', hr, hx, hxs, e, q⟩ => ?_
  unfold uPop at e
  split at e
  · split at e
    · rename_i i b zs e1
      obtain ⟨y, e2, e3⟩ := Option.map_eq_some_iff.mp e
      cases e3
      obtain ⟨a, rfl, h1, h2, ws, h3, h4⟩ := Mv.cell_ok hr hx e1
      cases hxs
      obtain ⟨w, e4, hw⟩ := Paired.at h4 e2
      obtain ⟨r2, s2⟩ := hr.put (u := .lst ws.dropLast) (o := .lst zs.dropLast) ⟨_, h2⟩ h1 h3 trivial ⟨_, upd_same, Paired.dropLast (XCs.upd1 h3 trivial h4)⟩
      exact .inl ⟨a, ws, w, rfl, rfl, h3, by rw [← h4.length]; exact e4, q _ _ s2 r2 (hw.2.mono s2)⟩
    · cases e
  · rename_i k
    split at e
    · rename_i i b zs e1
      split at e
      · rename_i c
        obtain ⟨j, e2, e3⟩ := Option.bind_eq_some_iff.mp e
        obtain ⟨y, e4, e5⟩ := Option.map_eq_some_iff.mp e3
        cases e5
        obtain ⟨a, rfl, h1, h2, ws, h3, h4⟩ := Mv.cell_ok hr hx e1
        obtain ⟨w0, rfl, hk⟩ := one_of hxs
        cases hk
        obtain ⟨w, e6, hw⟩ := Paired.at h4 e4
        obtain ⟨r2, s2⟩ := hr.put (u := .lst (ws.eraseIdx j)) (o := .lst (zs.eraseIdx j)) ⟨_, h2⟩ h1 h3 trivial ⟨_, upd_same, Paired.erase j (XCs.upd1 h3 trivial h4)⟩
        exact .inr ⟨a, ws, k, j, w, rfl, rfl, h3, c.1, c.2, by rw [← h4.length]; exact e2, e6, q _ _ s2 r2 (hw.2.mono s2)⟩
      · cases e
    · cases e
  · cases e
/-- extend by a list of any kind -/
def rExtL (K : PySem.W.Frag) : V → List V → Hp → VK → Prop := fun x vs H Q => ∃ l b xs zs, x = .ref l ∧ vs = [.ref b] ∧ H l = some (.lst xs) ∧ PlnL K H b zs ∧ xs.length + zs.length ≤ sizeLine ∧ Q .non (upd H l (.lst (xs ++ zs)))
theorem mt_extL : MtR X "list.extend" (rExtL X.K) := by
  intro pins s σ H x vs v us Q I rx rv h
  obtain ⟨l, b, xs, zs, rfl, rfl, hH, hB, hz, q⟩ := h
  cases rx
  obtain ⟨u, rfl, ru⟩ := rv.one
  cases ru
  obtain ⟨few, its, n, r, len1, e1⟩ := I.lstM hH
  obtain ⟨its2, n2, e2, r2, few2⟩ := PlnL.obj I hB
  have len2 := r2.length
  have fits : its.toArray.size + its2.toArray.size ≤ sizeLine := by rw [List.size_toArray, List.size_toArray]; omega
  have short : ¬ (!its.toArray.isEmpty && Builtin.List.listTooLong (its.toArray.size + its2.toArray.size)) = true := by
    rw [notLongL fits, Bool.and_false]
    exact Bool.false_ne_true
  refine call_meets F.slot_list_extend ⟨_, e1, rfl⟩ F.entry_list_extend (F.args_list_extend_2 _ _) (AutoSeq1.list_extend_list_list_0 l its.toArray n b its2.toArray n2 short (by rw [List.size_toArray]; omega) (by omega)) ⟨e1, e2, ?_⟩
  exact ⟨.non, _, I.lset (its' := its ++ its2) hH e1 (by simp) (r.append r2) (by rw [List.length_append]; omega), rfl, q⟩
def uExtend : Sg → Mv → List Mv → Option (Mv × Sg) := fun S x xs => match xs with
  | [y] => match x.cell S, y.isList S with
    | some (i, b, .lst zs), some ys => if zs.length + ys.length ≤ sizeLine then some (.d .none, S.set i (b, .lst (zs ++ ys))) else none
    | _, _ => none
  | _ => none
theorem u_extend : MtU X "list.extend" uExtend := by
  refine MtR.imp mt_extL fun v vs H Q ⟨ι, S, x, xs, z, S', hr, hx, hxs, e, q⟩ => ?_
  unfold uExtend at e
  split at e
  · rename_i y
    split at e
    · rename_i i b zs ys e1 e2
      split at e
      · rename_i c
        cases e
        obtain ⟨a, rfl, h1, h2, ws, h3, h4⟩ := Mv.cell_ok hr hx e1
        obtain ⟨w, rfl, hy⟩ := one_of hxs
        obtain ⟨a2, ws2, rfl, h5, h6⟩ := Mv.isList_ok hr hy e2
        obtain ⟨r2, s2⟩ := hr.put (u := .lst (ws ++ ws2)) (o := .lst (zs ++ ys)) ⟨_, h2⟩ h1 h3 trivial ⟨_, upd_same, Paired.append (XCs.upd1 h3 trivial h4) (XCs.upd1 h3 trivial h6)⟩
        exact ⟨a, a2, ws, ws2, rfl, rfl, h3, h5, by rw [← h4.length, ← h6.length]; exact c, q _ _ s2 r2 .non⟩
      · cases e
    · cases e
  · cases e
/-! ### a list's item is stored -/
def setIx (S : Sg) (x y : Mv) (z : Mv) : Option Sg := match y with
  | .d (.int k) => match x.cell S with
    | some (i, b, .lst zs) => if z.free = true then (ixN zs.length k).map fun j => S.set i (b, .lst (zs.set j z)) else none
    | _ => none
  | _ => none
theorem Paired.set {α β : Type} {F : α → β → Prop} {x : α} {y : β} (r : F x y) : ∀ {xs : List α} {ys : List β} (n : Nat), Paired F xs ys → Paired F (xs.set n x) (ys.set n y)
  | _, _, _, .nil => .nil
  | _, _, 0, .cons _ t => .cons r t
  | _, _, n + 1, .cons q t => .cons q (Paired.set r n t)
def mSetIx (v o i : ME) : MS := fun ρ S => (v ρ S).go ρ fun z S1 => (o ρ S1).go ρ fun x S2 => (i ρ S2).go ρ fun y S3 => match setIx S3 x y z with | some S4 => .nx ρ S4 | none => .bad
theorem pms_setIx {o i e : Expr} {mv mo mi : ME} {p pos : Pos} (hv : PM X W e mv) (ho : PM X W o mo) (hi : PM X W i mi)
    (ha : ∀ v, assign (.Subscript o i p) X.env v = (do
      let ov ← holding [v] (eval o X.env)
      let iv ← holding [v, ov] (eval i X.env)
      standAt p
      holding [v, ov, iv] (setItem ov iv v)
      release [v, ov, iv] []) := by intro _; rfl)
    (hs : swapsWithSole [.Subscript o i p] e pos.line X.env = pure false := by rfl) (hw : swappedStores [.Subscript o i p] e X.env = pure none := by rfl)
    (h1 : (assignEach [.Subscript o i p] X.env).map (·.2) = [assign (.Subscript o i p) X.env] := by rfl) : PMS X W (.Assign [.Subscript o i p] e pos) (mSetIx mv mo mi) := by
  refine ps_imp (ps_asg hv (pg_sub ho hi set_list ha) hs hw h1) fun D σ H ⟨ι, S, ρ, hl, hr, h⟩ => ?_
  refine ⟨ι, S, ρ, hl, hr, stepS h hl fun z w ι1 H1 S1 s1 r1 hz h1 => ?_⟩
  refine ⟨ι1, S1, ρ, hl.mono s1, r1, stepS h1 (hl.mono s1) fun x v ι2 H2 S2 s2 r2 hx h2 => ?_⟩
  have hl2 := (hl.mono s1).mono s2
  refine ⟨ι2, S2, ρ, hl2, r2, stepS h2 hl2 fun y u ι3 H3 S3 s3 r3 hy h3 => ?_⟩
  have hx := hx.mono s3
  have hz := (hz.mono s2).mono s3
  cases e : setIx S3 x y z with
  | none => simp only [e] at h3; exact h3.elim
  | some S4 =>
    simp only [e] at h3
    unfold setIx at e
    split at e
    · rename_i k
      split at e
      · rename_i i b zs e1
        split at e
        · rename_i c
          obtain ⟨j, e2, e3⟩ := Option.map_eq_some_iff.mp e
          subst e3
          obtain ⟨a, rfl, q1, q2, ws, q3, q4⟩ := Mv.cell_ok r3 hx e1
          cases hy
          obtain ⟨r4, s4⟩ := r3.put (u := .lst (ws.set j w)) (o := .lst (zs.set j z)) ⟨_, q2⟩ q1 q3 trivial ⟨_, upd_same, Paired.set (XC.upd1 q3 trivial ⟨c, hz⟩) j (XCs.upd1 q3 trivial q4)⟩
          exact ⟨a, ws, k, j, rfl, rfl, q3, by rw [← q4.length]; exact e2, h3 _ _ _ s4 r4 ((hl2.mono s3).mono s4)⟩
        · cases e
      · cases e
    · cases e

/-! ### texts' methods -/
def gJoin : Sg → Mv → List Mv → Option Nw := fun S x xs => match x, xs with
  | .d (.str a), [y] => (y.seq S).bind fun q => (strsM q.2).bind fun ys => if (ys.map (·.length)).sum + ys.length * a.length ≤ 16777216 then some (.val (.d (.str (Txt.join a ys)))) else none
  | _, _ => none
theorem m_join : MtP X "str.join" gJoin := by
  refine MtR.imp mt_join fun v vs H Q ⟨ι, S, x, xs, z, hr, hx, hxs, e, q⟩ => ?_
  unfold gJoin at e
  split at e
  · obtain ⟨⟨t, ms⟩, e1, e2⟩ := Option.bind_eq_some_iff.mp e
    obtain ⟨ys, e3, e4⟩ := Option.bind_eq_some_iff.mp e2
    split at e4
    · rename_i c
      cases e4; cases hx
      obtain ⟨w, rfl, hy⟩ := one_of hxs
      obtain ⟨a, ws, rfl, h1, h2⟩ := Mv.seq_ok hr hy e1
      have es := strs_ok h2 e3
      subst es
      refine ⟨_, a, ys, rfl, rfl, ?_, c, q _ (.str _)⟩
      cases t with
      | true => exact .inr h1
      | false => exact .inl (PlnL.sq h1)
    · cases e4
  · cases e
/-- the place of a text in a text, or a ValueError -/
def exVal : Ex := ⟨.type "ValueError", none⟩
def mIndex (o : ME) (a : MA) : ME := fun ρ S => (o ρ S).bind fun x S1 => match x with
  | .d (.str z) => (a ρ S1).bind fun xs S2 => match xs with
    | [.d (.str y)] => match Txt.index0 z y with | some k => .ok (.d (.int (k : Nat))) S2 | none => .exc exVal S2
    | _ => .bad
  | _ => .bad
theorem pm_index {o e : Expr} {mo : ME} {ma : MA} {apos cpos : Pos} (hc : X.calm = true) (tk : Takes X W) (ho : PM X W o mo) (ha : PL X W [e] ma)
    (hbase : attributeBase o "index" X.env (eval o X.env) = eval o X.env := by rfl)
    (hfew : ((backTo cpos (starEach [e] X.env)).all (fun x => !x.1) && (backToKw cpos (keywordEach [] X.env)).all (fun x => x.1.isSome) && decide ([e].length + ([] : List Keyword).length + (if ([] : List Keyword).isEmpty then 0 else 1) < 30)) = true := by rfl)
    (hline : (apos.endLine == cpos.line) = true := by rfl) (hs : starEach [e] X.env = (false, eval e X.env) :: starEach [] X.env := by rfl) (hplain : (backTo cpos (starEach [] X.env)).any (·.1) = false := by rfl) :
    PM X W (.Call (.Attribute o "index" apos) [e] [] cpos) (mIndex mo ma) := by
  refine pe_imp (pe_bmS PySem.F.plainAttrs_str PySem.F.slot_str_index PySem.F.type_str_index (mt_indexX hc tk) ho ha hbase hfew hline hs hplain) fun σ H Q ⟨ι, S, ρ, hl, hr, h⟩ => ?_
  refine ⟨ι, S, ρ, hl, hr, step h fun x v ι1 H1 S1 s1 r1 hx h1 => ?_⟩
  split at h1
  · rename_i z
    cases hx
    refine ⟨rfl, ι1, S1, ρ, hl.mono s1, r1, step h1 fun xs vs ι2 H2 S2 s2 r2 hs h2 => ?_⟩
    split at h2
    · rename_i y
      obtain ⟨w, rfl, hy⟩ := one_of hs
      cases hy
      refine ⟨z, y, rfl, rfl, fun k ek => ?_, fun en d => ?_⟩
      · simp only [ek] at h2
        exact h2 _ _ _ (Sub.refl _ _) r2 (.int _)
      · simp only [en] at h2
        exact h2 _ _ d (Sub.refl _ _) r2 trivial
    · exact h2.elim
  · exact h1.elim

/-! ### two names at once -/
def mPar (i j : Nat) (a : MA) : MS := fun ρ S => (a ρ S).go ρ fun xs S1 => match xs with | [x, y] => .nx ((ρ.set i (some x)).set j (some y)) S1 | _ => .bad
theorem pms_par {i j : Nat} {x y : Str} {a b : Expr} {ma : MA} {px py pt pos : Pos} {kt k2 : Nat} {pt2 : Pos} (hc : X.calm = true) (hN : X.N.Nodup) (hi : X.N[i]? = some x) (hj : X.N[j]? = some y) (hij : i ≠ j)
    (hx : X.env.scope.names.lookup x = some .local) (hy : X.env.scope.names.lookup y = some .local) (ha : PL X W [a, b] ma) (h : PS X (.Assign [.Tuple [.Name x px, .Name y py] kt pt] (.Tuple [a, b] k2 pt2) pos) (tPar i j (tG (XVs X.K) X.K W ma))) :
    PMS X W (.Assign [.Tuple [.Name x px, .Name y py] kt pt] (.Tuple [a, b] k2 pt2) pos) (mPar i j ma) := by
  refine ps_imp h fun D σ H ⟨ι, S, ρ, hl, hr, h⟩ => ⟨ι, S, ρ, hl, hr, stepS h hl fun xs vs ι1 H1 S1 s1 r1 hs h1 => ?_⟩
  split at h1
  · obtain ⟨v, u, rfl, q1, q2⟩ := two_of hs
    exact ⟨v, u, rfl, h1 _ _ _ (Sub.refl _ _) r1 (((hl.mono s1).set i q1).set j q2)⟩
  · exact h1.elim

/-! ### calls with keywords -/
def PLK (X : Cx) (W : WX) (kws : List Keyword) (m : MA) : Prop := PK X kws (tG (XVs X.K) X.K W m)
theorem pk_imp {kws : List Keyword} {t t' : TA} (h : PK X kws t) (i : ∀ σ H Q, t' σ H Q → t σ H Q) : PK X kws t' := ⟨fun pos pins s σ H Q I q => h.run pos pins s σ H Q I (i _ _ _ q)⟩
theorem plk_nil : PLK X W [] mNil := pk_imp pk_nil fun σ H Q ⟨ι, S, ρ, hl, hr, h⟩ => h _ _ _ (Sub.refl _ _) hr .nil
theorem plk_cons {nm : Option Str} {e : Expr} {kp : Pos} {kws : List Keyword} {m : ME} {ms : MA} (h : PM X W e m) (hs : PLK X W kws ms) : PLK X W (⟨nm, e, kp⟩ :: kws) (mCons m ms) := by
  refine pk_imp (pk_cons h hs) fun σ H Q ⟨ι, S, ρ, hl, hr, h⟩ => ?_
  refine ⟨ι, S, ρ, hl, hr, step h fun x v ι1 H1 S1 s1 r1 hx h1 => ?_⟩
  refine ⟨ι1, S1, ρ, hl.mono s1, r1, step h1 fun y u ι2 H2 S2 s2 r2 hy h2 => ?_⟩
  exact h2 _ _ _ (Sub.refl _ _) r2 (.cons (hx.mono s2) hy)
/-- how keywords bind -/
theorem fun_bindsG {K : PySem.W.Frag} {x qual : Str} {st : Stmt} {f : Addr} {fd : FuncData} {ps : List Str} (F : Fun K x qual st f fd) {args : Args} {r : List Value} (s : Shared)
    (h : ∀ (kV doc pm : Value) (an : Option Addr) (cdv ct : Value), bindArgs (PySem.W.fnOf x qual (defArgs st) (defBody st) (defScope st) .none kV doc pm an cdv ct) args = pure (ps.zip r)) : BindsTo s fd args (ps.zip r) := by
  obtain ⟨oc, od, kV, doc, pm, an, cdv, ct, osl, rfl, lk, hcd⟩ := F.ex
  exact .of_eq (h kV doc pm an cdv ct)
/-- where an argument comes from: a place, a keyword, a default -/
inductive Sr where
  | p (i : Nat) | k (i : Nat) | v (i : Nat)
def Sr.get {α : Type} (us ws ds : List α) : Sr → Option α
  | .p i => us[i]?
  | .k i => ws[i]?
  | .v i => ds[i]?
def laid {α : Type} (us ws ds : List α) : List Sr → Option (List α)
  | [] => some []
  | o :: r => (o.get us ws ds).bind fun x => (laid us ws ds r).map (x :: ·)
theorem Paired.at' {α β : Type} {F : α → β → Prop} {xs : List α} {ys : List β} (h : Paired F xs ys) {i : Nat} {y : β} (e : ys[i]? = some y) : ∃ x, xs[i]? = some x ∧ F x y := by
  induction h generalizing i with
  | nil => cases e
  | cons r t ih => cases i with
    | zero => cases e; exact ⟨_, rfl, r⟩
    | succ i => exact ih e
theorem laid_ok {α β : Type} {F : α → β → Prop} {us ws ds : List α} {us' ws' ds' : List β} (h1 : Paired F us us') (h2 : Paired F ws ws') (h3 : Paired F ds ds') : ∀ {os : List Sr} {r : List α}, laid us ws ds os = some r → ∃ r', laid us' ws' ds' os = some r' ∧ Paired F r r'
  | [], _, e => by cases e; exact ⟨[], rfl, .nil⟩
  | o :: os, _, e => by
    obtain ⟨x, e1, e2⟩ := Option.bind_eq_some_iff.mp e
    obtain ⟨r, e3, rfl⟩ := Option.map_eq_some_iff.mp e2
    obtain ⟨r', e4, q⟩ := laid_ok h1 h2 h3 e3
    have : ∃ y, o.get us' ws' ds' = some y ∧ F x y := by
      cases o with
      | p i => exact Paired.at h1 e1
      | k i => exact Paired.at h2 e1
      | v i => exact Paired.at h3 e1
    obtain ⟨y, e5, q2⟩ := this
    exact ⟨y :: r', by simp [laid, e5, e4], .cons q2 q⟩
def mCallK (n : Nat) (f : List Mv → Sg → Res Mv) (os : List Sr) (ds : List Mv) (a k : MA) : ME := fun ρ S => (a ρ S).bind fun xs S1 => (k ρ S1).bind fun ys S2 => match laid xs ys ds os with
  | some zs => if frees zs = true ∧ zs.length = n then f zs S2 else .bad
  | none => .bad
section
variable {k : Nat} {f : Addr} {fd : FuncData} {ps ks : List Str} {m : List Mv → Sg → Res Mv} {x : Str} {p pos : Pos} {e : Expr} {es : List Expr} {kws : List Keyword} {ms mk : MA} {ds : List Mv} {dvs : List V} {dus : List Value} {os : List Sr}
theorem callK_want {σ : L2.St} {H : Hp} {Q : VK} (hds : ∀ ι H, XVs X.K ι H ds dvs) (h : tG (XV X.K) X.K W (mCallK ps.length m os ds ms mk) σ H Q) :
    tG (XVs X.K) X.K W ms σ H fun vs H1 => tG (XVs X.K) X.K W mk σ H1 fun zs H2 => ∃ r, laid vs zs dvs os = some r ∧ spM X.K ps.length m r H2 Q (WE W σ) := by
  obtain ⟨ι, S, ρ, hl, hR, h⟩ := h
  refine ⟨ι, S, ρ, hl, hR, step h fun xs vs ι1 H1 S1 s1 r1 hx h1 => ?_⟩
  refine ⟨ι1, S1, ρ, hl.mono s1, r1, step h1 fun ys us ι2 H2 S2 s2 r2 hy h2 => ?_⟩
  cases el : laid xs ys ds os with
  | none => simp only [el] at h2; exact h2.elim
  | some zs =>
    simp only [el] at h2
    by_cases c : frees zs = true ∧ zs.length = ps.length
    · rw [if_pos c] at h2
      obtain ⟨r, e2, pr⟩ := laid_ok (XVs.mono s2 hx) hy (hds ι2 H2) el
      refine ⟨r, e2, ι2, S2, zs, Paired_frees pr c.1, c.2, r2, ?_⟩
      cases e : m zs S2 with
      | ok y S' => rw [e] at h2; exact h2
      | exc y S' => rw [e] at h2; exact h2
      | bad => rw [e] at h2; exact h2
    · rw [if_neg c] at h2; exact h2.elim
/-- f(k = v, ..) -/
theorem pm_callK0 {n : Nat} (F : FnM X.prog X.w X.K X.mg X.base k f fd ps m) (hr : Room k X.A) (gds : X.A.guards = some []) (tk : Takes X W) (hg : Gl X x) (hm : X.mg x = some (.ref f)) (hk : PySem.W.keepIn X.K (.ref f) = true)
    (hb : ∀ (s : Shared) (ws r : List Value), X.K.In s.heap → ws.length = ks.length → laid [] ws dus os = some r → BindsTo s fd ⟨[], ks.zip ws⟩ (ps.zip r)) (hd : Vals dvs dus) (hds : ∀ ι H, XVs X.K ι H ds dvs) (hl : ∀ ρ S xs S', mk ρ S = .ok xs S' → xs.length = ks.length)
    (hkw : PLK X W kws mk) (hn : ps.length = n := by rfl) (hall : (backToKw pos (keywordEach kws X.env)).all (·.1.isSome) = true := by rfl) (hks : (backToKw pos (keywordEach kws X.env)).filterMap (·.1) = ks := by rfl) (hdb : (x == ("__debug__" : Str)) = false := by decide)
    (hpl : ((backTo pos (starEach [] X.env)).any (·.1) || (backToKw pos (keywordEach kws X.env)).any (·.1.isNone)) = false := by rfl) :
    PM X W (.Call (.Name x p) [] kws pos) (mCallK n m os ds mNil mk) := by
  subst hn
  refine ⟨fun pins s σ H Q I want => ?_⟩
  refine wpAny_Call_Name_kw (ld_glob I hg hm ?_ hdb)
  refine PySem.W.callWith_KW0 (h₀ := X.base) I.ok.mod.kin hk hall ?_ hpl
  have want2 : tG (fun ι H xs vs => XVs X.K ι H xs vs ∧ xs.length = ks.length) X.K W mk σ H fun zs H2 => zs.length = ks.length ∧ ∃ r, laid [] zs dvs os = some r ∧ spM X.K ps.length m r H2 Q (WE W σ) := by
    obtain ⟨ι, S, ρ, hL, hR, h⟩ := callK_want hds want
    have h := h _ _ _ (Sub.refl _ _) hR .nil
    obtain ⟨ι, S, ρ, hL, hR, h⟩ := h
    refine ⟨ι, S, ρ, hL, hR, ?_⟩
    cases e : mk ρ S with
    | ok xs S' => rw [e] at h; exact fun ι1 H1 v s r ⟨hx, hn⟩ => ⟨by rw [← hx.length]; exact hn, h _ _ _ s r hx⟩
    | exc _ _ => rw [e] at h; exact h
    | bad => rw [e] at h; exact h
  have want3 : tG (XVs X.K) X.K W mk σ H fun zs H2 => zs.length = ks.length ∧ ∃ r, laid [] zs dvs os = some r ∧ spM X.K ps.length m r H2 Q (WE W σ) := by
    obtain ⟨ι, S, ρ, hL, hR, h⟩ := want2
    refine ⟨ι, S, ρ, hL, hR, ?_⟩
    cases e : mk ρ S with
    | ok xs S' => rw [e] at h; exact fun ι1 H1 v s r hx => h _ _ _ s r ⟨hx, hl _ _ _ _ e⟩
    | exc _ _ => rw [e] at h; exact h
    | bad => rw [e] at h; exact h
  refine thn (hkw.run pos pins s σ H _ I want3) fun ws s2 ⟨zs, H2, I2, rz, ln, r, er, q⟩ => ⟨I2.kIn, ?_⟩
  rw [hks]
  obtain ⟨r', er', rr⟩ := laid_ok (F := RelV) (us := []) (us' := []) .nil rz hd er
  refine wpAny_call (codeAny_mono (run_m F hr gds tk (hb s2 ws r' I2.kIn (by rw [← rz.length]; exact ln) er') I2 rr q) fun res s' got => ?_)
  cases res with
  | error e => exact got
  | ok fl => cases fl <;> exact got
end
end
section
variable {X : Cx} {W : WX}
theorem units65 {k : Nat} {A : Around} (r : Room k A) : A.units + 65 < cLine := by have := r.un; omega
theorem units128 {k : Nat} {A : Around} (r : Room k A) : A.units + 128 < cLine := by have := r.un; omega
theorem units1 {k : Nat} {A : Around} (r : Room k A) : A.units + 1 < cLine := by have := r.un; omega
theorem len_of_nil {ρ : Rho} {S S' : Sg} {xs : List Mv} (h : mNil ρ S = .ok xs S') : xs.length = 0 := by cases h; rfl
theorem len_of_cons {a : ME} {r : MA} {n : Nat} {ρ : Rho} {S S' : Sg} {xs : List Mv} (hr : ∀ ρ S xs S', r ρ S = .ok xs S' → xs.length = n) (h : mCons a r ρ S = .ok xs S') : xs.length = n + 1 := by
  unfold mCons Res.bind at h
  split at h
  · simp only at h
    split at h
    · rename_i e
      cases h
      rw [List.length_cons, hr _ _ _ _ e]
    · cases h
    · cases h
  · cases h
  · cases h
/-- a written negative number -/
def mNeg (a : ME) : ME := fun ρ S => (a ρ S).bind fun x S1 => match x with | .d (.int i) => .ok (.d (.int (-i))) S1 | _ => .bad
theorem pm_neg {a : Expr} {ma : ME} {pos : Pos} (ha : PM X W a ma) : PM X W (.UnaryOp .USub a pos) (mNeg ma) := by
  refine pe_imp (pe_un un_neg ha) fun σ H Q ⟨ι, S, ρ, hl, hr, h⟩ => ⟨ι, S, ρ, hl, hr, step h fun x v ι1 H1 S1 s1 r1 hx h1 => ?_⟩
  split at h1
  · cases hx
    exact ⟨_, rfl, h1 _ _ _ (Sub.refl _ _) r1 (.int _)⟩
  · exact h1.elim
/-- f() -/
def mCall0 (f : List Mv → Sg → Res Mv) : ME := fun _ S => f [] S
theorem pm_call0 {k : Nat} {f : Addr} {fd : FuncData} {m : List Mv → Sg → Res Mv} {x : Str} {p pos : Pos} (F : FnM X.prog X.w X.K X.mg X.base k f fd [] m) (hr : Room k X.A) (gds : X.A.guards = some []) (tk : Takes X W) (hg : Gl X x) (hm : X.mg x = some (.ref f)) (hk : PySem.W.keepIn X.K (.ref f) = true)
    (hb : L2.Binds X.K fd [] []) (hd : Vals ([] : List V) []) (hdb : (x == ("__debug__" : Str)) = false := by decide) : PM X W (.Call (.Name x p) [] [] pos) (mCall0 m) := by
  refine ⟨fun pins s σ H Q I ⟨ι, S, ρ, hl, hR, h⟩ => ?_⟩
  refine wpAny_Call_Name_kw (ld_glob I hg hm ?_ hdb)
  refine PySem.W.callWith_K0 I.kIn hk ?_
  have want : spM X.K 0 m [] H Q (WE W σ) := by
    refine ⟨ι, S, [], .nil, rfl, hR, ?_⟩
    unfold mCall0 at h
    cases e : m [] S with
    | ok y S' => rw [e] at h; exact h
    | exc y S' => rw [e] at h; exact h
    | bad => rw [e] at h; exact h
  refine wpAny_call (codeAny_mono (run_m (ps := []) F hr gds tk (hb s [] I.kIn rfl) I .nil want) fun res s' got => ?_)
  cases res with
  | error e => exact got
  | ok fl => cases fl <;> exact got
end
end MM
end
section
set_option Elab.async false
set_option linter.all false
set_option maxRecDepth 100000
set_option maxHeartbeats 4000000
set_option autoImplicit false
namespace MM
open PySem PySem.Spec PyProof.Rows L2

/-! ### two comparisons in a row -/
section
variable {X : Cx} {W : WX}
def chF (g' : Sg → Mv → Mv → Option Nw) (c : ME) (ρ : Rho) (y : Mv) (S : Sg) (o : Option Nw) : Res Mv := match o with
  | some (.val (.d (.bool true))) => (c ρ S).bind fun z S3 => opt (g' S3 y z) fun n => bear .ref n S3
  | some (.val (.d (.bool false))) => .ok (.d (.bool false)) S
  | _ => .bad
def mChain (g g' : Sg → Mv → Mv → Option Nw) (a b c : ME) : ME := fun ρ S => (a ρ S).bind fun x S1 => (b ρ S1).bind fun y S2 => chF g' c ρ y S2 (g S2 x y)
theorem chain_core {g g' : Sg → Mv → Mv → Option Nw} {ma mb mc : ME} {σ : L2.St} {H : Hp} {Q : VK} (h : tG (XV X.K) X.K W (mChain g g' ma mb mc) σ H Q) :
    tChain (fun v u H Q => ∃ ι S x y z, Rl X.K ι S H ∧ XV X.K ι H x v ∧ XV X.K ι H y u ∧ g S x y = some z ∧ Raw X.K ι H Q z) (fun v u H Q => ∃ ι S x y z, Rl X.K ι S H ∧ XV X.K ι H x v ∧ XV X.K ι H y u ∧ g' S x y = some z ∧ Raw X.K ι H Q z)
      (tG (XV X.K) X.K W ma) (tG (XV X.K) X.K W mb) (tG (XV X.K) X.K W mc) σ H Q := by
  obtain ⟨ι, S, ρ, hl, hr, h⟩ := h
  refine ⟨ι, S, ρ, hl, hr, step h fun x v ι1 H1 S1 s1 r1 hx h1 => ?_⟩
  refine ⟨ι1, S1, ρ, hl.mono s1, r1, step h1 fun y u ι2 H2 S2 s2 r2 hy h2 => ?_⟩
  unfold chF at h2
  split at h2
  · rename_i e
    refine ⟨ι2, S2, x, y, _, r2, hx.mono s2, hy, e, fun w hw => ?_⟩
    cases hw
    refine ⟨true, rfl, ?_⟩
    rw [if_pos rfl]
    refine ⟨ι2, S2, ρ, (hl.mono s1).mono s2, r2, step h2 fun z w ι3 H3 S3 s3 r3 hz h3 => ?_⟩
    unfold opt at h3
    cases e3 : g' S3 y z with
    | none => rw [e3] at h3; exact h3.elim
    | some n =>
      rw [e3] at h3
      exact ⟨ι3, S3, y, z, n, r3, hy.mono s3, hz, e3, bear_raw r3 h3⟩
  · rename_i e
    refine ⟨ι2, S2, x, y, _, r2, hx.mono s2, hy, e, fun w hw => ?_⟩
    cases hw
    exact ⟨false, rfl, h2 _ _ _ (Sub.refl _ _) r2 (.bl _)⟩
  · exact h2.elim

theorem pm_chain {op op' : CmpOp} {a b c : Expr} {g g' : Sg → Mv → Mv → Option Nw} {ma mb mc : ME} {pos : Pos} (o : OpP X (compareOp op) g) (o' : OpP X (compareOp op') g') (ha : PM X W a ma) (hb : PM X W b mb) (hc : PM X W c mc)
    (hm : lastMarks [op, op'] [b, c] = false := by with_unfolding_all rfl) : PM X W (.Compare a [op, op'] [b, c] pos) (mChain g g' ma mb mc) :=
  pe_imp (pe_chain o o' ha hb hc hm) fun σ H Q h => chain_core h
theorem pb_chain {op op' : CmpOp} {a b c : Expr} {g g' : Sg → Mv → Mv → Option Nw} {ma mb mc : ME} {pos : Pos} (o : OpP X (compareOp op) g) (o' : OpP X (compareOp op') g') (ha : PM X W a ma) (hb : PM X W b mb) (hc : PM X W c mc)
    (hm : lastMarks [op, op'] [b, c] = false := by with_unfolding_all rfl) : PB X W (.Compare a [op, op'] [b, c] pos) (mTst (mChain g g' ma mb mc)) := by
  refine pt_imp (pt_chain o o' ha hb hc hm) fun σ H Q ⟨ι, S, ρ, hl, hr, h⟩ => ?_
  have h0 : tG (XV X.K) X.K W (mChain g g' ma mb mc) σ H fun x H' => ∃ k, x = .bl k ∧ Q k H' := by
    refine ⟨ι, S, ρ, hl, hr, step h fun x v ι1 H1 S1 s1 r1 hx h1 => ?_⟩
    cases x with
    | d y =>
      cases y with
      | bool k => cases hx; exact ⟨k, rfl, h1 _ _ _ (Sub.refl _ _) r1 rfl⟩
      | _ => exact h1.elim
    | _ => exact h1.elim
  obtain ⟨ι, S, ρ, hl, hr, h⟩ := h0
  exact chain_core ⟨ι, S, ρ, hl, hr, h⟩

/-! ### texts' methods -/
def gStarts : Sg → Mv → List Mv → Option Nw := fun _ x xs => match x, xs with
  | .d (.str a), [.d (.str b)] => some (.val (.d (.bool (Txt.startswith a b))))
  | _, _ => none
def gEnds : Sg → Mv → List Mv → Option Nw := fun _ x xs => match x, xs with
  | .d (.str a), [.d (.str b)] => some (.val (.d (.bool (Txt.endswith a b))))
  | _, _ => none
def gUpper : Sg → Mv → List Mv → Option Nw := fun _ x xs => match x, xs with
  | .d (.str a), [] => if a.length ≤ 5592405 then some (.val (.d (.str (Txt.upper a)))) else none
  | _, _ => none
def gPart : Sg → Mv → List Mv → Option Nw := fun _ x xs => match x, xs with
  | .d (.str a), [.d (.str b)] => if (b.length == 0) = false ∧ a.length ≤ sizeLine then some (.tup [.d (.str (Txt.partition a b).1), .d (.str (Txt.partition a b).2.1), .d (.str (Txt.partition a b).2.2)]) else none
  | _, _ => none
theorem m_starts : MtP X "str.startswith" gStarts := by
  refine MtR.imp mt_startswith fun v vs H Q ⟨ι, S, x, xs, z, hr, hx, hxs, e, q⟩ => ?_
  unfold gStarts at e
  split at e
  · cases e; cases hx
    obtain ⟨w, rfl, hy⟩ := one_of hxs
    cases hy
    exact ⟨_, _, rfl, rfl, q _ (.bl _)⟩
  · cases e
theorem m_ends : MtP X "str.endswith" gEnds := by
  refine MtR.imp mt_endswith fun v vs H Q ⟨ι, S, x, xs, z, hr, hx, hxs, e, q⟩ => ?_
  unfold gEnds at e
  split at e
  · cases e; cases hx
    obtain ⟨w, rfl, hy⟩ := one_of hxs
    cases hy
    exact ⟨_, _, rfl, rfl, q _ (.bl _)⟩
  · cases e
theorem m_upper : MtP X "str.upper" gUpper := by
  refine MtR.imp mt_upper fun v vs H Q ⟨ι, S, x, xs, z, hr, hx, hxs, e, q⟩ => ?_
  unfold gUpper at e
  split at e
  · split at e
    · rename_i c
      cases e; cases hx; cases hxs
      exact ⟨_, rfl, rfl, c, q _ (.str _)⟩
    · cases e
  · cases e
theorem m_part : MtP X "str.partition" gPart := by
  refine MtR.imp mt_partition fun v vs H Q ⟨ι, S, x, xs, z, hr, hx, hxs, e, q⟩ => ?_
  unfold gPart at e
  split at e
  · split at e
    · rename_i c
      cases e; cases hx
      obtain ⟨w, rfl, hy⟩ := one_of hxs
      cases hy
      exact ⟨_, _, rfl, rfl, c.1, c.2, fun p hp => q _ p (.cons ⟨rfl, .str _⟩ (.cons ⟨rfl, .str _⟩ (.cons ⟨rfl, .str _⟩ .nil))) hp⟩
    · cases e
  · cases e

/-! ### f-strings -/
def mFmt (m : ME) : ME := fun ρ S => (m ρ S).bind fun x S1 => match x with
  | .d (.str y) => if y.length ≤ sizeLine then .ok (.d (.str y)) S1 else .bad
  | .d (.int i) => if i.natAbs.log2 < 1920 then .ok (.d (.str (toString i))) S1 else .bad
  | _ => .bad
theorem pm_fmt {e : Expr} {m : ME} {pos : Pos} (h : PM X W e m) : PM X W (.FormattedValue e (-1) none pos) (mFmt m) := by
  refine pe_imp (pe_fmt h) fun σ H Q ⟨ι, S, ρ, hl, hr, h⟩ => ?_
  refine ⟨ι, S, ρ, hl, hr, step h fun x v ι1 H1 S1 s1 r1 hx h1 => ?_⟩
  split at h1
  · split at h1
    · rename_i c
      cases hx
      exact .inl ⟨_, rfl, c, h1 _ _ _ (Sub.refl _ _) r1 (.str _)⟩
    · exact h1.elim
  · split at h1
    · rename_i c
      cases hx
      exact .inr ⟨_, rfl, c, h1 _ _ _ (Sub.refl _ _) r1 (.str _)⟩
    · exact h1.elim
  · exact h1.elim
def mFmtR (m : ME) : ME := fun ρ S => (m ρ S).bind fun x S1 => match x with
  | .d (.str y) => if (reprText y).length ≤ sizeLine then .ok (.d (.str (reprText y))) S1 else .bad
  | .d (.int i) => if i.natAbs.log2 < 1920 then .ok (.d (.str (toString i))) S1 else .bad
  | _ => .bad
theorem pm_fmtR {e : Expr} {m : ME} {pos : Pos} (h : PM X W e m) : PM X W (.FormattedValue e 114 none pos) (mFmtR m) := by
  refine pe_imp (pe_fmtR h) fun σ H Q ⟨ι, S, ρ, hl, hr, h⟩ => ?_
  refine ⟨ι, S, ρ, hl, hr, step h fun x v ι1 H1 S1 s1 r1 hx h1 => ?_⟩
  split at h1
  · split at h1
    · rename_i c
      cases hx
      exact .inl ⟨_, rfl, c, h1 _ _ _ (Sub.refl _ _) r1 (.str _)⟩
    · exact h1.elim
  · split at h1
    · rename_i c
      cases hx
      exact .inr ⟨_, rfl, c, h1 _ _ _ (Sub.refl _ _) r1 (.str _)⟩
    · exact h1.elim
  · exact h1.elim
def jsS (acc : Str) (x : Mv) : Option Str := match x with
  | .d (.str y) => if (acc ++ y).length ≤ sizeLine then some (acc ++ y) else none
  | _ => none
def jsF (o : Option Str) (S : Sg) (f : Str → Sg → Res Mv) : Res Mv := match o with | some z => f z S | none => .bad
def mJs : List ME → Str → ME
  | [], acc => fun _ S => .ok (.d (.str acc)) S
  | m :: ms, acc => fun ρ S => (m ρ S).bind fun x S1 => jsF (jsS acc x) S1 fun z S2 => mJs ms z ρ S2
def PJM (X : Cx) (W : WX) (es : List Expr) (ms : List ME) : Prop := PJ X es (ms.map fun m => tG (XV X.K) X.K W m)
theorem pj_nilM : PJM X W [] [] := .nil
theorem pj_consM {e : Expr} {es : List Expr} {m : ME} {ms : List ME} (h : PM X W e m) (r : PJM X W es ms) : PJM X W (e :: es) (m :: ms) := .cons h r
theorem js_core {σ : L2.St} {Q : VK} : ∀ {ms : List ME} {acc : Str} {H : Hp}, tG (XV X.K) X.K W (mJs ms acc) σ H Q → tJs (ms.map fun m => tG (XV X.K) X.K W m) acc σ H fun out H1 => Q (.str out) H1
  | [], acc, H, ⟨ι, S, ρ, hl, hr, h⟩ => h _ _ _ (Sub.refl _ _) hr (.str _)
  | m :: ms, acc, H, ⟨ι, S, ρ, hl, hr, h⟩ => by
    refine ⟨ι, S, ρ, hl, hr, step h fun x v ι1 H1 S1 s1 r1 hx h1 => ?_⟩
    cases e : jsS acc x with
    | none => rw [e] at h1; exact h1.elim
    | some z =>
      rw [e] at h1
      unfold jsS at e
      split at e
      · split at e
        · rename_i c
          cases e
          cases hx
          exact ⟨_, rfl, c, js_core ⟨ι1, S1, ρ, hl.mono s1, r1, h1⟩⟩
        · cases e
      · cases e
theorem pm_joined {v1 v2 : Expr} {rest : List Expr} {ms : List ME} {pos : Pos} (h : PJM X W (v1 :: v2 :: rest) ms) : PM X W (.JoinedStr (v1 :: v2 :: rest) pos) (mJs ms Str.empty) :=
  pe_imp (pe_joined h) fun σ H Q h => js_core h
theorem pm_joined1 {e : Expr} {m : ME} {pos : Pos} (h : PM X W e m) : PM X W (.JoinedStr [e] pos) m := pe_joined1 h

/-! ### displays of dicts that are not written any more -/
def mPairs : List (ME × ME) → Rho → Sg → Res (List (Mv × Mv))
  | [], _, S => .ok [] S
  | (a, b) :: r, ρ, S => (a ρ S).bind fun x S1 => (b ρ S1).bind fun y S2 => (mPairs r ρ S2).bind fun ps S3 => .ok ((x, y) :: ps) S3
abbrev XP (K : PySem.W.Frag) : Io → Hp → List (Mv × Mv) → List (V × V) → Prop := fun ι H => Paired fun p q => XV K ι H p.1 q.1 ∧ XV K ι H p.2 q.2
abbrev trM (X : Cx) (W : WX) (ps : List (ME × ME)) : List (TE × TE) := ps.map fun p => (tG (XV X.K) X.K W p.1, tG (XV X.K) X.K W p.2)
def PMPs (X : Cx) (W : WX) (pos : Pos) (ks : List (Option Expr)) (vs : List Expr) (ps : List (ME × ME)) : Prop := PPs X pos ks vs (trM X W ps)
theorem pmps_nil {pos : Pos} : PMPs X W pos [] [] [] := pps_nil
theorem pmps_cons {pos : Pos} {k v : Expr} {ks : List (Option Expr)} {vs : List Expr} {mk mv : ME} {ps : List (ME × ME)} (hk : PM X W k mk) (hv : PM X W v mv) (hr : PMPs X W pos ks vs ps) : PMPs X W pos (some k :: ks) (v :: vs) ((mk, mv) :: ps) := pps_cons hk hv hr
theorem pairs_core {σ : L2.St} : ∀ {ps : List (ME × ME)} {H : Hp} {Q : List (V × V) → Hp → Prop}, tG (XP X.K) X.K W (mPairs ps) σ H Q → tPairs (trM X W ps) σ H Q
  | [], H, Q, ⟨ι, S, ρ, hl, hr, h⟩ => h _ _ _ (Sub.refl _ _) hr .nil
  | (a, b) :: r, H, Q, ⟨ι, S, ρ, hl, hr, h⟩ => by
    refine ⟨ι, S, ρ, hl, hr, step h fun x v ι1 H1 S1 s1 r1 hx h1 => ?_⟩
    refine ⟨ι1, S1, ρ, hl.mono s1, r1, step h1 fun y u ι2 H2 S2 s2 r2 hy h2 => ?_⟩
    refine pairs_core ⟨ι2, S2, ρ, (hl.mono s1).mono s2, r2, step h2 fun qs ws ι3 H3 S3 s3 r3 hz h3 => ?_⟩
    exact h3 _ _ _ (Sub.refl _ _) r3 (.cons ⟨(hx.mono s2).mono s3, hy.mono s3⟩ hz)
def putD (kvs : List (Key × PyData)) (k : Key) (d : PyData) : List (Key × PyData) :=
  if (kvs.any fun kv => decide (kv.1 = k)) = true then kvs.map (fun kv => if kv.1 = k then (kv.1, d) else kv) else kvs ++ [(k, d)]
def mergeD (kvs more : List (Key × PyData)) : List (Key × PyData) := more.foldl (fun acc kv => putD acc kv.1 kv.2) kvs
def keyM : Mv → Option Key
  | .d (.int i) => some (.inl i)
  | .d (.str x) => some (.inr x)
  | _ => none
def keysM : List (Mv × Mv) → Option (List (Key × PyData))
  | [] => some []
  | (x, .d y) :: r => match keyM x, keysM r with | some k, some ks => some ((k, y) :: ks) | _, _ => none
  | _ => none
def dD (kvs : List (Key × PyData)) : PyData := .dict (kvs.map fun kv => (keyD kv.1, kv.2))
def dctF (S : Sg) (o : Option (List (Key × PyData))) : Res Mv := match o with | some kvs => .ok (.d (dD (mergeD [] kvs))) S | none => .bad
def mDct (ps : List (ME × ME)) : ME := fun ρ S => (mPairs ps ρ S).bind fun qs S1 => dctF S1 (keysM qs)
abbrev KD (K : PySem.W.Frag) (H : Hp) : List (Key × PyData) → List (Key × V) → Prop := Paired fun p q => p.1 = q.1 ∧ FD K H p.2 q.2
theorem KD.fdk {K : PySem.W.Frag} {H : Hp} : ∀ {ds : List (Key × PyData)} {kvs : List (Key × V)}, KD K H ds kvs → FDk K H (ds.map fun kv => (keyD kv.1, kv.2)) kvs
  | _, _, .nil => .nil
  | (k, d) :: ds, (k', v) :: vs, .cons ⟨e, h⟩ t => by
    simp only at e
    subst e
    exact .cons h (KD.fdk t)
theorem KD.any {K : PySem.W.Frag} {H : Hp} {ds : List (Key × PyData)} {kvs : List (Key × V)} (r : KD K H ds kvs) (k : Key) : (ds.any fun kv => decide (kv.1 = k)) = kvs.any fun kv => decide (kv.1 = k) := by
  induction r with
  | nil => rfl
  | cons h t ih => rw [List.any_cons, List.any_cons, ih, h.1]
theorem KD.put {K : PySem.W.Frag} {H : Hp} {ds : List (Key × PyData)} {kvs : List (Key × V)} (r : KD K H ds kvs) (k : Key) {d : PyData} {v : V} (h : FD K H d v) : KD K H (putD ds k d) (putK kvs k v) := by
  unfold putD putK
  rw [r.any k]
  by_cases e : (kvs.any fun kv => decide (kv.1 = k)) = true
  · rw [if_pos e, if_pos e]
    clear e
    induction r with
    | nil => exact .nil
    | @cons p q ps qs h1 t ih =>
      refine .cons ?_ ih
      show (if p.1 = k then (p.1, d) else p).1 = (if q.1 = k then (q.1, v) else q).1 ∧ FD K H (if p.1 = k then (p.1, d) else p).2 (if q.1 = k then (q.1, v) else q).2
      by_cases e : p.1 = k
      · rw [if_pos e, if_pos (h1.1 ▸ e)]; exact ⟨h1.1, h⟩
      · rw [if_neg e, if_neg (h1.1 ▸ e)]; exact h1
  · rw [if_neg e, if_neg e]
    exact Paired.append r (.cons ⟨rfl, h⟩ .nil)
theorem KD.merge {K : PySem.W.Frag} {H : Hp} : ∀ {ms : List (Key × PyData)} {more : List (Key × V)} {ds : List (Key × PyData)} {kvs : List (Key × V)}, KD K H ms more → KD K H ds kvs → KD K H (mergeD ds ms) (mergeK kvs more)
  | _, _, _, _, .nil, r => r
  | (k, d) :: ms, (k', v) :: vs, ds, kvs, .cons ⟨e, h⟩ t, r => by
    simp only at e
    subst e
    show KD K H (mergeD (putD ds k d) ms) (mergeK (putK kvs k v) vs)
    exact KD.merge t (r.put k h)
theorem keysM_ok {K : PySem.W.Frag} {ι : Io} {H : Hp} : ∀ {qs : List (Mv × Mv)} {ws : List (V × V)} {ks : List (Key × PyData)}, XP K ι H qs ws → keysM qs = some ks → ∃ kvs, ws = kvs.map (fun kv => (kV kv.1, kv.2)) ∧ KD K H ks kvs
  | _, _, _, .nil, e => by cases e; exact ⟨[], rfl, .nil⟩
  | (x, y) :: qs, (v, u) :: ws, ks, .cons ⟨h1, h2⟩ t, e => by
    cases y with
    | d z =>
      simp only [keysM] at e
      cases e1 : keyM x with
      | none => rw [e1] at e; cases e
      | some k =>
        cases e2 : keysM qs with
        | none => rw [e1, e2] at e; cases e
        | some ks' =>
          rw [e1, e2] at e
          cases e
          obtain ⟨kvs, rfl, r⟩ := keysM_ok t e2
          have hk : v = kV k := by
            unfold keyM at e1
            split at e1
            · cases e1; cases h1; rfl
            · cases e1; cases h1; rfl
            · cases e1
          refine ⟨(k, u) :: kvs, by rw [hk]; rfl, .cons ⟨rfl, h2⟩ r⟩
    | _ => cases e
theorem dct_core {ps : List (ME × ME)} {σ : L2.St} {H : Hp} {Q : VK} (h15 : ps.length ≤ 15) (h : tG (XV X.K) X.K W (mDct ps) σ H Q) : tDisp (trM X W ps) σ H (Qf .frz Q) := by
  obtain ⟨ι, S, ρ, hl, hr, h⟩ := h
  intro p hp
  obtain ⟨r1, s1⟩ := hr.beside (u := .dK []) hp
  have off : ∀ q ∈ ι, q.2 ≠ p := fun q hq z => hr.live q hq (by rw [z]; exact hp)
  have len : ∀ (ps : List (ME × ME)) (ρ : Rho) (S : Sg) (qs : List (Mv × Mv)) (S' : Sg), mPairs ps ρ S = .ok qs S' → qs.length = ps.length := by
    intro ps
    induction ps with
    | nil => intro ρ S qs S' e; cases e; rfl
    | cons a r ih =>
      intro ρ S qs S' e
      obtain ⟨a, b⟩ := a
      simp only [mPairs] at e
      cases e1 : a ρ S with
      | ok x S1 =>
        rw [e1] at e
        simp only [Res.bind] at e
        cases e2 : b ρ S1 with
        | ok y S2 =>
          rw [e2] at e
          simp only [Res.bind] at e
          cases e3 : mPairs r ρ S2 with
          | ok zs S3 =>
            rw [e3] at e
            simp only [Res.bind] at e
            cases e
            rw [List.length_cons, List.length_cons, ih _ _ _ _ e3]
          | _ => rw [e3] at e; cases e
        | _ => rw [e2] at e; cases e
      | _ => rw [e1] at e; cases e
  cases e : mPairs ps ρ S with
  | bad =>
    unfold mDct at h
    rw [e] at h
    exact h.elim
  | exc ex S' =>
    unfold mDct at h
    rw [e] at h
    refine pairs_core ⟨ι, S, ρ, hl.mono s1, r1, ?_⟩
    rw [e]
    exact fun ι' H' d s r q => h ι' H' d (s1.trans s) r q
  | ok qs S' =>
    unfold mDct at h
    rw [e] at h
    have hq := len ps ρ S qs S' e
    refine pairs_core ⟨ι, S, ρ, hl.mono s1, r1, ?_⟩
    rw [e]
    intro ι2 H2 ws s2 r2 hx
    have kp : H2 p = some (.dK []) := s2.keep p _ upd_same off
    simp only [Res.bind] at h
    cases ek : keysM qs with
    | none => rw [ek] at h; exact h.elim
    | some ks =>
      rw [ek] at h
      obtain ⟨kvs, rfl, kd⟩ := keysM_ok hx ek
      refine ⟨kp, kvs, rfl, ?_, .inr ⟨p, _, rfl, upd_same, True.intro, fun o => ?_⟩⟩
      · have := hx.length
        rw [List.length_map] at this
        omega
      · have off2 : ∀ q ∈ ι2, q.2 ≠ p := by
          obtain ⟨t, et, ht⟩ := s2.pre
          intro q hq
          rw [et] at hq
          rcases List.mem_append.mp hq with hq | hq
          · exact off q hq
          · intro z
            have := ht q hq
            rw [z, upd_same] at this
            cases this
        rw [upd_upd]
        have r3 := r2.aside (u := .frz o (.dK (mergeK [] kvs))) kp True.intro off2
        have s3 : Sub ι H ι2 (upd H2 p (.frz o (.dK (mergeK [] kvs)))) := (s1.trans s2).again hp kp
        have g3 : Grow H2 (upd H2 p (.frz o (.dK (mergeK [] kvs)))) := Grow.write kp True.intro
        refine h ι2 _ _ s3 r3 (.dct upd_same (KD.fdk ?_))
        exact KD.merge (Paired.mapP kd fun _ _ q => ⟨q.1, FD.mono g3 q.2⟩) .nil
theorem pm_dct {pos : Pos} {keys : List (Option Expr)} {values : List Expr} {ps : List (ME × ME)} (h : PMPs X W pos keys values ps) (hall : keys.all (·.isSome) = true) (hl : keys.length = values.length) (h0 : keys ≠ []) (h15 : keys.length ≤ 15) (hp : ps.length = keys.length := by rfl) : PM X W (.Dict keys values pos) (mDct ps) :=
  pe_imp (pe_b .frz (pe_disp h hall hl h0 h15)) fun σ H Q q => dct_core (by omega) q
theorem pm_dct0 {pos : Pos} : PM X W (.Dict [] [] pos) (mC (.dict [])) := by
  refine pe_imp (pe_b .frz pe_dnewK) fun σ H Q ⟨ι, S, ρ, hl, hr, h⟩ => ?_
  intro p hp
  refine .inr ⟨p, _, rfl, upd_same, True.intro, fun o => ?_⟩
  rw [upd_upd]
  obtain ⟨r1, s1⟩ := hr.beside (u := .frz o (.dK [])) hp
  exact h ι _ _ s1 r1 (.dct upd_same .nil)
end
end MM
end
section
set_option Elab.async false
set_option linter.all false
set_option maxRecDepth 100000
set_option maxHeartbeats 4000000
set_option autoImplicit false
namespace MM
open PySem PySem.Spec PyProof.Rows L2
open PySem.W (alike dataLt AllAlike Sortable SortsAt dataKind sortingHeap list_sort_vals sortVals EachIs)

/-! ### < <= > >= of data -/
section
variable {X : Cx} {W : WX}
def rCmpD (K : PySem.W.Frag) (f : PyData → PyData → Bool) : R2 := fun x y H Q => ∃ d e, Dp K H x d ∧ Dp K H y e ∧ alike d e = true ∧ d ≠ .none ∧ d.depth ≤ 64 ∧ Q (.bl (f d e)) H
theorem cmp_room {d e : PyData} {n : Nat} (h : d.depth ≤ 64) (hu : n + 64 < cLine) : n + min d.depth e.depth < cLine := by
  have : min d.depth e.depth ≤ d.depth := Nat.min_le_left _ _
  omega
theorem op_ltD (hu : X.A.units + 64 < cLine) : OpR X (compareOp .Lt) (rCmpD X.K fun d e => dataLt d e) := by
  intro pins s σ H x y v u Q I rx ry ⟨d, e, hd, he, ha, hn, hz, q⟩
  obtain ⟨as, r1⟩ := Dp.reads I d x v hd rx
  obtain ⟨bs, r2⟩ := Dp.reads I e y u he ry
  exact PySem.W.lt_data r1 r2 ha hn (cmp_room hz hu) ⟨.bl _, H, I, rfl, q⟩
theorem op_gtD (hu : X.A.units + 64 < cLine) : OpR X (compareOp .Gt) (rCmpD X.K fun d e => dataLt e d) := by
  intro pins s σ H x y v u Q I rx ry ⟨d, e, hd, he, ha, hn, hz, q⟩
  obtain ⟨as, r1⟩ := Dp.reads I d x v hd rx
  obtain ⟨bs, r2⟩ := Dp.reads I e y u he ry
  exact PySem.W.gt_data r1 r2 ha hn (cmp_room hz hu) ⟨.bl _, H, I, rfl, q⟩
theorem op_leD (hu : X.A.units + 64 < cLine) : OpR X (compareOp .LtE) (rCmpD X.K fun d e => !dataLt e d) := by
  intro pins s σ H x y v u Q I rx ry ⟨d, e, hd, he, ha, hn, hz, q⟩
  obtain ⟨as, r1⟩ := Dp.reads I d x v hd rx
  obtain ⟨bs, r2⟩ := Dp.reads I e y u he ry
  exact PySem.W.le_data r1 r2 ha hn (cmp_room hz hu) ⟨.bl _, H, I, rfl, q⟩
theorem op_geD (hu : X.A.units + 64 < cLine) : OpR X (compareOp .GtE) (rCmpD X.K fun d e => !dataLt d e) := by
  intro pins s σ H x y v u Q I rx ry ⟨d, e, hd, he, ha, hn, hz, q⟩
  obtain ⟨as, r1⟩ := Dp.reads I d x v hd rx
  obtain ⟨bs, r2⟩ := Dp.reads I e y u he ry
  exact PySem.W.ge_data r1 r2 ha hn (cmp_room hz hu) ⟨.bl _, H, I, rfl, q⟩
def notNone : PyData → Bool
  | .none => false
  | _ => true
theorem notNone_ok {d : PyData} (h : notNone d = true) : d ≠ .none := fun e => by subst e; cases h
/-- whole numbers by number, all else by place -/
def gCmpD (p : Int → Int → Bool) (f : PyData → PyData → Bool) : Sg → Mv → Mv → Option Nw := fun S x y => match x, y with
  | .d (.int i), .d (.int j) => some (.val (.d (.bool (p i j))))
  | x, y => match x.data S, y.data S with
    | some d, some e => if alike d e = true ∧ notNone d = true ∧ SeqAt.shaped d = true ∧ SeqAt.shaped e = true then some (.val (.d (.bool (f d e)))) else none
    | _, _ => none
theorem o_cmpD {op : CmpOp} {p : Int → Int → Bool} {f : PyData → PyData → Bool} (h : OpR X (compareOp op) (rI0 fun i j => .bl (p i j))) (h2 : OpR X (compareOp op) (rCmpD X.K f)) : OpP X (compareOp op) (gCmpD p f) := by
  refine OpR.imp (OpR.or2 h h2) fun v u H Q ⟨ι, S, x, y, z, hr, hx, hy, e, q⟩ => ?_
  unfold gCmpD at e
  split at e
  · cases e; cases hx; cases hy
    exact .inl ⟨_, _, rfl, rfl, q _ (.bl _)⟩
  · split at e
    · rename_i d d' e1 e2
      split at e
      · rename_i c
        cases e
        exact .inr ⟨d, d', Mv.data_ok hr hx e1 c.2.2.1, Mv.data_ok hr hy e2 c.2.2.2, c.1, notNone_ok c.2.1, SeqAt.depth_of_shaped c.2.2.1, q _ (.bl _)⟩
      · cases e
    · cases e
abbrev gLtD := gCmpD (fun i j => decide (i < j)) fun d e => dataLt d e
abbrev gLeD := gCmpD (fun i j => decide (i ≤ j)) fun d e => !dataLt e d
abbrev gGtD := gCmpD (fun i j => decide (j < i)) fun d e => dataLt e d
abbrev gGeD := gCmpD (fun i j => decide (j ≤ i)) fun d e => !dataLt d e
theorem o_ltD (hu : X.A.units + 64 < cLine) : OpP X (compareOp .Lt) gLtD := o_cmpD op_lt (op_ltD hu)
theorem o_leD (hu : X.A.units + 64 < cLine) : OpP X (compareOp .LtE) gLeD := o_cmpD op_le (op_leD hu)
theorem o_gtD (hu : X.A.units + 64 < cLine) : OpP X (compareOp .Gt) gGtD := o_cmpD op_gt (op_gtD hu)
theorem o_geD (hu : X.A.units + 64 < cLine) : OpP X (compareOp .GtE) gGeD := o_cmpD op_ge (op_geD hu)
end

/-! ### sorted -/
/-- sorted, as told -/
noncomputable def sortD (ds : List PyData) : List PyData := ds.mergeSort (PySem.W.dataLe false fun d => d)
section
variable {P : Program} {w : World} {A : Around} {E : Value → Shared → Prop} {s : Shared}
/-- the rest of sorted, behind the gathering -/
theorem sorted_tail {vs : List Value} {ds : List PyData} {Q : Value → Shared → Prop} (e : EachIs (fun v d => ∃ as, Reads s.heap v d as) vs ds) (hal : AllAlike ds) (hk : Sortable ds) (hu : ∀ d, d ∈ ds → A.units + 4 + d.depth < cLine) (hL : vs.length ≤ sizeLine)
    (hQ : ∀ h' c h2, (∀ b o, s.heap.get? b = some o → h'.get? b = some o) → (∀ b o, s.heap.get? b = some o → h2.get? b = some o) → h'.get? s.heap.objs.size = some (seqObj "list" (sortVals (dataKind h2 ds) false vs vs).toArray c) → Q (.ref s.heap.objs.size) { s with heap := h' }) :
    wpAny (model P w) A.in1 (newList vs >>= fun l => holding [l] (call (.builtin "list.sort") [l] []) >>= fun _ => (ret l : Sem PySem.Fin)) (fun f s' => ∃ v, f = .done (.ret v) ∧ Q v s') E s := by
  refine wpAny_bind (wpAny_newList ?_ hL)
  have hoL : (s.heap.push (seqObj "list" vs.toArray 0)).get? s.heap.objs.size = some (seqObj "list" vs.toArray 0) := Heap.get?_push_size _ rfl
  have old : ∀ b o, s.heap.get? b = some o → (sortingHeap (s.heap.push (seqObj "list" vs.toArray 0)) s.heap.objs.size vs).get? b = some o := fun b o hb =>
    PySem.W.sortingHeap_old (Nat.ne_of_lt (Heap.lt_size hb)) (Heap.get?_push_of_some _ hb)
  have S : SortsAt P w A.in1.in1 { s with heap := sortingHeap (s.heap.push (seqObj "list" vs.toArray 0)) s.heap.objs.size vs } (dataKind (sortingHeap (s.heap.push (seqObj "list" vs.toArray 0)) s.heap.objs.size vs) ds) vs :=
    SortsAt.data (s := { s with heap := sortingHeap (s.heap.push (seqObj "list" vs.toArray 0)) s.heap.objs.size vs }) (e.mono fun v d ⟨as, r⟩ => ⟨as, Reads.keeps old r⟩) hal hk fun d hd => by
      have := hu d hd
      show A.units + 1 + 1 + d.depth < cLine
      omega
  refine wpAny_bind (wpAny_holding (wpAny_call_entry slot_list_sort ⟨_, hoL, rfl⟩ entry_list_sort
    (list_sort_vals (s := { s with heap := s.heap.push (seqObj "list" vs.toArray 0) }) hoL S hL ⟨_, rfl, ?_⟩) (args_list_sort _)))
  obtain ⟨c, hc⟩ := sortedHeap_at (vs := vs) (out := (sortVals (dataKind (sortingHeap (s.heap.push (seqObj "list" vs.toArray 0)) s.heap.objs.size vs) ds) false vs vs).toArray) hoL
  refine wpAny_pure ⟨_, rfl, hQ _ c _ (fun b o hb => ?_) old hc⟩
  have hlt := Heap.lt_size hb
  rw [sortedHeap_old (Nat.ne_of_lt hlt) (by rw [size_push']; exact Nat.lt_succ_of_lt hlt)]
  exact Heap.get?_push_of_some _ hb
end
section
variable {X : Cx} {W : WX}
/-- what reads as data, item by item -/
theorem FDs.each {pins : List (Addr × Obj)} {σ : L2.St} {H : Hp} {s : Shared} (I : Inv X pins σ H s) : ∀ {ds : List PyData} {xs : List V} {us : List Value}, FDs X.K H ds xs → Vals xs us → PyData.hasDictAll ds = false →
    EachIs (fun v d => (∃ as, Reads s.heap v d as) ∧ ∃ x, FD X.K H d x ∧ RelV x v) us ds
  | _, _, _, .nil, r, _ => by cases r; exact .nil
  | _, _, _, .cons h hs, r, e => by
    cases r with
    | cons r1 r2 =>
      simp only [PyData.hasDictAll, Bool.or_eq_false_iff] at e
      exact .cons ⟨Dp.reads I _ _ _ (FD.dp h e.1) r1, _, h, r1⟩ (FDs.each I hs r2 e.2)
theorem each_vals {K : PySem.W.Frag} {H : Hp} : ∀ {us : List Value} {ds : List PyData}, EachIs (fun v d => ∃ x, FD K H d x ∧ RelV x v) us ds → ∃ xs, FDs K H ds xs ∧ Vals xs us
  | _, _, .nil => ⟨[], .nil, .nil⟩
  | _, _, .cons ⟨x, h, r⟩ t => let ⟨xs, h1, h2⟩ := each_vals t; ⟨x :: xs, .cons h h1, .cons r h2⟩
theorem FDs.len {K : PySem.W.Frag} {H : Hp} : ∀ {ds : List PyData} {xs : List V}, FDs K H ds xs → ds.length = xs.length
  | _, _, .nil => rfl
  | _, _, .cons _ hs => congrArg (· + 1) (FDs.len hs)
theorem depth_mem {d : PyData} : ∀ {ds : List PyData}, d ∈ ds → d.depth ≤ PyData.depthAll ds
  | _ :: r, h => by
    simp only [PyData.depthAll]
    rcases List.mem_cons.mp h with rfl | h
    · exact Nat.le_max_left _ _
    · exact Nat.le_trans (depth_mem h) (Nat.le_max_right _ _)
def sortOk (ds : List PyData) : Bool := (ds.all fun d => ds.all fun e => alike d e) && ((ds.all fun d => match d with | .tuple (_ :: _) => true | _ => false) || (ds.all fun d => match d with | .none => false | .tuple _ => false | _ => true)) && SeqAt.shaped (.list ds)
theorem sortOk_ok {ds : List PyData} (h : sortOk ds = true) : AllAlike ds ∧ Sortable ds ∧ PyData.hasDictAll ds = false ∧ ∀ d ∈ ds, d.depth ≤ 64 := by
  simp only [sortOk, Bool.and_eq_true, Bool.or_eq_true, List.all_eq_true] at h
  obtain ⟨⟨h1, h2⟩, h3⟩ := h
  have hd := noDict_of_shaped h3
  have hz := SeqAt.depth_of_shaped h3
  simp only [PyData.hasDict] at hd
  simp only [PyData.depth] at hz
  refine ⟨fun d hd e he => h1 d hd e he, ?_, hd, fun d hd => by have := depth_mem hd; omega⟩
  rcases h2 with h2 | h2
  · refine .inl fun d hd => ?_
    have := h2 d hd
    split at this
    · exact ⟨_, _, rfl⟩
    · cases this
  · refine .inr fun d hd => ?_
    have := h2 d hd
    split at this
    · cases this
    · cases this
    · rename_i a b
      exact ⟨a, b⟩
/-- what is gathered from a value -/
def Gath (X : Cx) (s : Shared) (u : Value) (its : List Value) : Prop := ∀ (A : Around) (E : Value → Shared → Prop) (Q : List Value → Shared → Prop), A.handled = none → (∀ s', (∀ b o, s.heap.get? b = some o → s'.heap.get? b = some o) → s'.gens = s.gens → s'.os = s.os → Q its s') → wpAny (model X.prog X.w) A (collect u) Q E s
theorem gath_seq {s : Shared} {a : Addr} {T : String} {o : Obj} {its : Array Value} {n : Nat} (hT : T = "list" ∨ T = "tuple") (ho : s.heap.get? a = some o) (hc : o.cls = .type T) (hd : o.data = .seq its n) (hz : its.size ≤ sizeLine) : Gath X s (.ref a) its.toList :=
  fun A E Q _ q => PySem.wpAny_collect_seq a hT ho hc hd (fun h' k => q _ k rfl rfl) hz
theorem ObjOk_here {P : Program} {w : World} {H : Hp} {h : Heap} {a : Addr} {o : HO} (x : ObjOk P w H h a o) : ∃ o', h.get? a = some o' := by
  cases o with
  | lst xs => obtain ⟨_, _, _, _, e⟩ := x; exact ⟨_, e⟩
  | tup xs => obtain ⟨_, _, _, o, e, _⟩ := x; exact ⟨_, e⟩
  | dK kvs => obtain ⟨_, _, _, _, o, _, _, e, _⟩ := x; exact ⟨_, e⟩
  | dT kvs => obtain ⟨_, _, _, _, o, _, _, e, _⟩ := x; exact ⟨_, e⟩
  | set S n => obtain ⟨o, _, _, _, e, _⟩ := x; exact ⟨_, e⟩
  | ins C dx fs => obtain ⟨_, _, _, e, _⟩ := x; exact ⟨_, e⟩
  | own y => exact x
  | xd fs => obtain ⟨_, ⟨_, _, _, e, _⟩, _⟩ := x; exact ⟨_, e⟩
  | rng lo hi => obtain ⟨_, _, _, e⟩ := x; exact ⟨_, e⟩
  | frz ob u => obtain ⟨e, _⟩ := x; exact ⟨_, e⟩
  | tbl ps => exact ⟨_, (show h.get? a = some _ from x)⟩
  | met f y => exact ⟨_, (show h.get? a = some _ from x)⟩
  | ext φ => obtain ⟨_, e, _⟩ := x; exact e
theorem new_at {pins : List (Addr × Obj)} {σ : L2.St} {H : Hp} {s s1 : Shared} (I : Inv X pins σ H s) (k : ∀ b o, s.heap.get? b = some o → s1.heap.get? b = some o) : s.heap.get? s1.heap.objs.size = none ∧ H s1.heap.objs.size = none := by
  have h1 : s.heap.get? s1.heap.objs.size = none := by
    cases e : s.heap.get? s1.heap.objs.size with
    | none => rfl
    | some o => exact absurd (Heap.lt_size (k _ _ e)) (Nat.lt_irrefl _)
  refine ⟨h1, ?_⟩
  cases e : H s1.heap.objs.size with
  | none => rfl
  | some o =>
    obtain ⟨o', e'⟩ := ObjOk_here (I.hok _ _ e)
    rw [h1] at e'; cases e'
theorem sorted_core {pins : List (Addr × Obj)} {σ : L2.St} {H : Hp} {s : Shared} {Q : VK} {u : Value} {its : List Value} {ds : List PyData} {xs : List V} (hc : X.calm = true) (hu : X.A.units + 70 < cLine) (I : Inv X pins σ H s) (g : Gath X s u its) (hd : FDs X.K H ds xs) (r : Vals xs its) (h : sortOk ds = true) (hz : ds.length ≤ sizeLine)
    (q : ∀ p ys, FDs X.K H (sortD ds) ys → H p = none → Q (.ref p) (upd H p (.lst ys))) : wpAny (model X.prog X.w) X.A (call (.builtin "sorted") [u]) (EP X pins σ Q) X.xe s := by
  obtain ⟨hal, hk, hnd, hdz⟩ := sortOk_ok h
  have e0 := FDs.each I hd r hnd
  have hl : its.length ≤ sizeLine := by rw [← r.length, ← hd.len]; exact hz
  refine Calls.call_function_entry kind_sorted plain_sorted entry_sorted (args_sorted1 _) ?_
  unfold Builtin.«sorted»
  refine wpAny_bind (m := checkCount "sorted" 1 1 _) (wpAny_pure ?_)
  refine wpAny_bind (g _ _ _ (I.ok.hd hc) fun s1 k1 g1 o1 => ?_)
  have e1 : EachIs (fun v d => ∃ as, Reads s1.heap v d as) its ds := e0.mono fun v d ⟨⟨as, r⟩, _⟩ => ⟨as, Reads.keeps k1 r⟩
  refine sorted_tail (A := X.A) (ds := ds) e1 hal hk (fun d hd => by have := hdz d hd; omega) hl fun h' c h2 k2 k3 hp => ?_
  have e2 : EachIs (fun v d => ∃ x, FD X.K H d x ∧ RelV x v) (sortVals (dataKind h2 ds) false its its) (sortD ds) :=
    PySem.W.sortVals_each (κ := dataKind h2 ds) (k := PySem.W.keyToks) (e0.mono fun v d q => q.2) (PySem.W.each_keys hal (e1.mono fun v d ⟨as, r⟩ => ⟨as, Reads.keeps k3 r⟩))
  obtain ⟨ys, f1, f2⟩ := each_vals e2
  obtain ⟨n1, n2⟩ := new_at I k1
  have hz2 : ys.length ≤ sizeLine := by
    rw [← f1.len]
    unfold sortD
    rw [List.length_mergeSort]; exact hz
  have kk : ∀ b u, s.heap.get? b = some u → h'.get? b = some u := fun b u e => k2 b u (k1 b u e)
  have J2 : Inv X pins σ (upd H s1.heap.objs.size (.lst ys)) { s1 with heap := h' } :=
    I.call' (s' := { s1 with heap := h' }) (ch := []) o1 (Un.laidN kk n1 n2) (I.hok.laidN kk n2 ⟨hz2, _, c, f2, hp⟩) (by show AllBare s1.gens; rw [g1]; exact I.bare) (fun _ z => nomatch z)
  exact ⟨.ref _, _, J2, rfl, q _ ys f1 n2⟩
noncomputable def gSorted : Sg → List Mv → Option Nw := fun S xs => match xs with
  | [x] => match x.seq S with
    | some (_, ys) => match allD ys with
      | some ds => if sortOk ds = true ∧ ds.length ≤ sizeLine then some (.lst ((sortD ds).map .d)) else none
      | none => none
    | none => none
  | _ => none
theorem c_sorted (hc : X.calm = true) (hu : X.A.units + 70 < cLine) : CallP X (.builtin "sorted") gSorted := by
  intro pins s σ H vs us Q I r ⟨ι, S, xs, z, hr, hx, e, q⟩
  unfold gSorted at e
  split at e
  · rename_i x
    obtain ⟨v, rfl, hv⟩ := one_of hx
    split at e
    · rename_i t ys e1
      split at e
      · rename_i ds e2
        split at e
        · rename_i c
          cases e
          obtain ⟨a, ws, rfl, h1, h2⟩ := Mv.seq_ok hr hv e1
          have hd := allD_FDs h2 e2
          rw [Vals.ref1 r]
          have fin : ∀ p ys, FDs X.K H (sortD ds) ys → H p = none → Q (.ref p) (upd H p (.lst ys)) := fun p ys f hp => q ys p (FDs.xcs f) hp
          cases t with
          | true =>
            obtain ⟨its, rv, ⟨o, ho, hcl, n, hdt⟩, hz⟩ := I.tuple h1
            exact sorted_core hc hu I (gath_seq (T := "tuple") (.inr rfl) ho hcl hdt (by rw [List.size_toArray, ← rv.length]; exact hz)) hd rv c.1 c.2 fin
          | false =>
            obtain ⟨its, n, ho, rv, hz⟩ := PlnL.obj I h1
            exact sorted_core hc hu I (gath_seq (T := "list") (.inl rfl) ho rfl rfl (by rw [List.size_toArray, ← rv.length]; exact hz)) hd rv c.1 c.2 fin
        · cases e
      · cases e
    · cases e
  · cases e
end
end MM
end
section
set_option Elab.async false
set_option linter.all false
set_option maxRecDepth 100000
set_option maxHeartbeats 4000000
set_option autoImplicit false
namespace MM
open PySem PySem.Spec PyProof.Rows L2
open PySem.W (EachIs)

/-! ### sets of keys, by the row of their members -/
def keyE (e : Int × Value) : Key := match e.2 with
  | .int k _ => .inl k
  | .str z _ => .inr z
  | _ => .inl 0
def GoodM (w : World) (e : Int × Value) : Prop := keyIs (keyE e) e.2 = true ∧ e.1 = keyH w (keyE e)
theorem keyM_of {e : Int × Value} {k : Key} (h : keyIs k e.2 = true) : keyE e = k := by
  obtain ⟨x, v⟩ := e
  rcases keyIs_shape h with ⟨i, t, rfl, e⟩ | ⟨z, t, rfl, e⟩
  · simp only at e; subst e; rfl
  · simp only at e; subst e; rfl
theorem goodM_elems {P : Program} {w : World} {l : List (Int × Value)} (g : ∀ e ∈ l, GoodM w e) : ElemsOf (mixKind P w) l := fun e he => by
  obtain ⟨h1, h2⟩ := g e he
  refine ⟨⟨keyE e, h1, h2⟩, ?_⟩
  rcases keyIs_shape h1 with ⟨i, t, _, e⟩ | ⟨z, t, _, e⟩ <;> rw [e] <;> rfl
/-- the set at a has just these members; its table rises and can be walked -/
def SetM (w : World) (h : Heap) (a : Addr) (ks : List Key) : Prop :=
  ∃ o es ep t, h.get? a = some o ∧ o.ExactSet ∧ o.data = .set es ep t ∧ (∀ e ∈ es.toList, GoodM w e) ∧ (es.toList.map keyE).Perm ks ∧ ks.Nodup ∧ es.size < scanBound ∧ t.fits es.size = true ∧ Ris t.place.toList ∧ (w.params.followText "set-order" = true ∨ t.led = true)
def addK (ks : List Key) (k : Key) : List Key := if (ks.any fun j => decide (j = k)) = true then ks else ks ++ [k]
theorem any_mem {ks : List Key} {k : Key} : (ks.any fun j => decide (j = k)) = true ↔ k ∈ ks := by
  rw [List.any_eq_true]
  exact ⟨fun ⟨j, hj, e⟩ => of_decide_eq_true e ▸ hj, fun h => ⟨k, h, decide_eq_true rfl⟩⟩
section
variable {P : Program} {w : World} {A : Around} {E : Value → Shared → Prop} {s : Shared} {a : Addr} {ks : List Key}
theorem SetM.stays {h h' : Heap} (R : SetM w h a ks) (k : ∀ o, h.get? a = some o → h'.get? a = some o) : SetM w h' a ks := let ⟨o, es, ep, t, ho, r⟩ := R; ⟨o, es, ep, t, k o ho, r⟩
theorem SetM.there {h : Heap} (R : SetM w h a ks) : ∃ o, h.get? a = some o := let ⟨o, _, _, _, ho, _⟩ := R; ⟨o, ho⟩
theorem SetM.size {es : Array (Int × Value)} {ks : List Key} (p : (es.toList.map keyE).Perm ks) : es.size = ks.length := by
  rw [← p.length_eq, List.length_map, Array.length_toList]
/-- what stands behind a store -/
theorem SetM.store {h : Heap} {o : Obj} {es es' : Array (Int × Value)} {ep : Nat} {t t' : SetTable} {ks : List Key} (ho : h.get? a = some o) (hx : o.ExactSet) (hd : o.data = .set es ep t) (g : ∀ e ∈ es'.toList, GoodM w e) (p : (es'.toList.map keyE).Perm ks) (nd : ks.Nodup) (hb : es'.size < scanBound) (hf : t'.fits es'.size = true) (hr : Ris t'.place.toList)
    (hl : w.params.followText "set-order" = true ∨ t'.led = true) : SetM w (h.update a (Obj.putSet es' t')) a ks ∧ (h.update a (Obj.putSet es' t')).get? a = some { o with data := .set es' (ep + 1) t' } :=
  have at_ := L2.store_at (es' := es') (t' := t') ho hd
  ⟨⟨_, es', _, t', at_, hx, rfl, g, p, nd, hb, hf, hr, hl⟩, at_⟩
/-- the new member is stored, the table perhaps laid anew -/
theorem setM_tail {gw : Bool → Sem Unit} (hg : ∀ (b : Bool) (s₁ : Shared) (Q' : Unit → Shared → Prop), Q' () s₁ → wpAny (model P w) A (gw b) Q' E s₁) {o : Obj} {es es1 : Array (Int × Value)} {ep : Nat} {t t2 : SetTable} {ls : List Key}
    (ho : s.heap.get? a = some o) (hx : o.ExactSet) (hd : o.data = .set es ep t) (g1 : ∀ e ∈ es1.toList, GoodM w e) (p1 : (es1.toList.map keyE).Perm ls) (nd : ls.Nodup) (hb : es1.size < scanBound) (hf : t2.fits es1.size = true) (hr : Ris t2.place.toList) (hl : w.params.followText "set-order" = true ∨ t2.led = true)
    {dummy : Bool} {R : Option Bool → Shared → Prop} (hR : ∀ h', Heap.SameBut a s.heap h' → SetM w h' a ls → R (some true) { s with heap := h' }) :
    wpAny (model P w) A (storeSet a es1 t2 >>= fun _ => if (!dummy && t2.tooFull) = true then (gw (relayAll t2 es1 (SetTable.grown es1.size)).2.2 >>= fun _ => storeSet a (relayAll t2 es1 (SetTable.grown es1.size)).1 (relayAll t2 es1 (SetTable.grown es1.size)).2.1 >>= fun _ => pure (some true)) else pure (some true)) R E s := by
  obtain ⟨S1, at1⟩ := SetM.store (t' := t2) ho hx hd g1 p1 nd hb hf hr hl
  have sb1 := Heap.SameBut.update s.heap a (Obj.putSet es1 t2)
  refine wpAny_bind (wpAny_storeSet_of ho hd ?_ (fits_of_scanBound hb))
  by_cases c : (!dummy && t2.tooFull) = true
  · rw [if_pos c]
    have q1 := relayAll_perm t2 es1 (SetTable.grown es1.size)
    have q2 := relayAll_fits t2 es1 (SetTable.grown es1.size)
    have q3 := relayAll_ris t2 es1 (SetTable.grown es1.size)
    have q4 := relayAll_led t2 es1 (SetTable.grown es1.size)
    generalize relayAll t2 es1 (SetTable.grown es1.size) = Z at q1 q2 q3 q4 ⊢
    have hz : Z.1.size = es1.size := by rw [← Array.length_toList, q1.length_eq, Array.length_toList]
    refine wpAny_bind (hg _ _ _ (wpAny_bind (wpAny_storeSet_of at1 rfl (wpAny_pure ?_) (fits_of_scanBound (by rw [hz]; exact hb)))))
    obtain ⟨S2, _⟩ := SetM.store (w := w) (es' := Z.1) (t' := Z.2.1) at1 hx rfl (fun e he => g1 e (q1.mem_iff.mp he)) ((q1.map keyE).trans p1) nd (by rw [hz]; exact hb) q2 q3 (hl.imp id fun z => by rw [q4]; exact z)
    exact hR _ (sb1.trans (Heap.SameBut.update _ a _)) S2
  · rw [if_neg c]
    exact wpAny_pure (hR _ sb1 S1)
theorem quiet_rule {x : String} (b : Bool) {s₁ : Shared} {Q' : Unit → Shared → Prop} (q : Q' () s₁) : wpAny (model P w) A (match b with | true => rule x | false => pure ()) Q' E s₁ := by
  cases b
  · exact wpAny_pure q
  · exact wpAny_rule q
theorem setM_hashed {u : Value} {k : Key} {Q : Bool → Shared → Prop} (R : SetM w s.heap a ks) (hk : keyIs k u = true) (hsc : u.scannable = true) (room : ks.length + 1 < scanBound)
    (hQ : ∀ h' b, Heap.SameBut a s.heap h' → SetM w h' a (addK ks k) → Q b { s with heap := h' }) : wpAny (model P w) A (setAddHashed a u ((mixKind P w).hash k)) Q E s := by
  obtain ⟨o, es, ep, t, ho, hx, hd, g, p, nd, hb, hf, hr, hl⟩ := R
  have hkey : (mixKind P w).is k u = true := hk
  have hel : ElemsOf (mixKind P w) es.toList := goodM_elems g
  have hm : ∀ e ∈ es.toList, (mixKind P w).is k e.2 = true → k ∈ ks := fun e he q => by
    rw [← p.mem_iff, ← keyM_of (e := e) q]
    exact List.mem_map_of_mem he
  unfold setAddHashed setAddHashedIn
  refine wpAny_holding (wpAny_bind (wpAny_setState_of ho hd hf ?_))
  dsimp only
  rw [byScan_of hsc hb hel]
  simp only [↓reduceIte]
  unfold setAddByScan
  refine wpAny_bind (wpAny_bind (wpAny_rule (wpAny_bind (wpAny_setScan_of hkey ho hd hf hel ?_))))
  cases hfi : List.findIdx? (fun e => (mixKind P w).is k e.2) es.toList with
  | some j =>
    dsimp only
    obtain ⟨hj, pj, _⟩ := List.findIdx?_eq_some_iff_getElem.mp hfi
    have hin : k ∈ ks := hm _ (List.getElem_mem hj) pj
    refine wpAny_pure (wpAny_pure (hQ s.heap _ (Heap.SameBut.refl a s.heap) ?_))
    unfold addK
    rw [if_pos (any_mem.mpr hin)]
    exact ⟨o, es, ep, t, ho, hx, hd, g, p, nd, hb, hf, hr, hl⟩
  | none =>
    dsimp only
    have hout : k ∉ ks := fun z => by
      rw [← p.mem_iff] at z
      obtain ⟨e, he, q⟩ := List.mem_map.mp z
      have c := List.findIdx?_eq_none_iff.mp hfi e he
      have : (mixKind P w).is k e.2 = true := q ▸ (g e he).1
      rw [this] at c
      cases c
    have pm := layNew_perm t es ((mixKind P w).hash k) u
    have hf1 := layNew_fits t es ((mixKind P w).hash k) u
    have hr1 := layNew_ris t es ((mixKind P w).hash k) u hr
    have hl1 := layNew_led t es ((mixKind P w).hash k) u
    generalize layNew t es ((mixKind P w).hash k) u = Z at pm hf1 hr1 hl1 ⊢
    obtain ⟨es1, t1, dummy, gave⟩ := Z
    dsimp only at pm hf1 hr1 hl1 ⊢
    rw [Array.toList_push] at pm
    have eu : keyE ((mixKind P w).hash k, u) = k := keyM_of hk
    have p1 : (es1.toList.map keyE).Perm (ks ++ [k]) := by
      have q := pm.map keyE
      rw [List.map_append, List.map_cons, List.map_nil, eu] at q
      exact q.trans (p.append_right [k])
    have g1 : ∀ e ∈ es1.toList, GoodM w e := fun e he => by
      rcases List.mem_append.mp (pm.mem_iff.mp he) with z | z
      · exact g e z
      · rw [List.mem_singleton.mp z]
        exact ⟨by rw [eu]; exact hk, by rw [eu]; rfl⟩
    have nd1 : (ks ++ [k]).Nodup := List.nodup_append.mpr ⟨nd, by simp, fun x hx y hy e => hout (by rw [List.mem_singleton.mp hy] at e; exact e ▸ hx)⟩
    have hz : es1.size = ks.length + 1 := by rw [SetM.size p1, List.length_append]; rfl
    have hb1 : es1.size < scanBound := by rw [hz]; exact room
    have hled : w.params.followText "set-order" = true ∨ t1.led = true := hl.imp id fun z => by rw [hl1]; exact z
    have fin : ∀ h' b, Heap.SameBut a s.heap h' → SetM w h' a (ks ++ [k]) → Q b { s with heap := h' } := fun h' b sb r => hQ h' b sb (by
      unfold addK
      rw [if_neg (fun z => hout (any_mem.mp z))]; exact r)
    refine wpAny_bind (quiet_rule _ ?_)
    split
    · refine wpAny_bind ?_
      rw [hashByValue_scannable 8 hsc]
      refine wpAny_pure (setM_tail (fun b s₁ Q' q => quiet_rule b q) ho hx hd g1 p1 nd1 hb1 ?_ ?_ ?_ fun h' sb r => ?_)
      · split <;> first | exact hf1 | exact SetTable.fits_plain_off hf1
      · split <;> exact hr1
      · split <;> exact hled
      · dsimp only
        exact wpAny_pure (fin h' _ sb r)
    · refine wpAny_bind (wpAny_pure ?_)
      simp only [↓reduceIte]
      refine setM_tail (fun b s₁ Q' q => quiet_rule b q) ho hx hd g1 p1 nd1 hb1 hf1 hr1 hled fun h' sb r => ?_
      dsimp only
      exact wpAny_pure (fin h' _ sb r)
/-- a member comes to the set -/
theorem setM_add {u : Value} {k : Key} {Q : Value → Shared → Prop} (R : SetM w s.heap a ks) (hk : keyIs k u = true) (room : ks.length + 1 < scanBound)
    (hQ : ∀ h', Heap.SameBut a s.heap h' → SetM w h' a (addK ks k) → Q .none { s with heap := h', toks := s.toks + 1 }) : wpAny (model P w) A (call (.builtin "set.add") [.ref a, u]) Q E s := by
  have hsc : u.scannable = true := by rcases keyIs_shape hk with ⟨i, t, _, e⟩ | ⟨z, t, _, e⟩ <;> rw [e] <;> rfl
  have hT : s.TypeIs (.ref a) "set" := by
    obtain ⟨o, es, ep, t, ho, hx, _⟩ := R
    exact ⟨o, ho, hx.1⟩
  refine wpAny_call_entry F.slot_set_add hT F.entry_set_add ?_ (F.args_set_add_2 _ _)
  unfold Builtin.«set.add» Builtin.Frozenset.oneOther
  simp only [List.isEmpty_nil, bind_assoc]
  unfold Builtin.Frozenset.addrOf setAdd
  refine wpAny_bind (wpAny_pure ?_)
  try dsimp only
  refine wpAny_bind (wpAny_pure ?_)
  try dsimp only
  refine wpAny_bind (wpAny_holding (wpAny_bind ((mixKind P w).pyHash hk ?_)))
  refine setM_hashed (s := { s with toks := s.toks + 1 }) R hk hsc room fun h' b sb r => ?_
  show wpAny _ _ (ret Value.none) _ _ _
  exact wpAny_pure ⟨_, rfl, hQ h' sb r⟩
theorem setM_fresh {h : Heap} : SetM w (h.push { cls := .type "set", dict := none, data := .set #[] 0 (.fresh 0 0 (!w.params.followText "set-order")) }) h.objs.size [] :=
  ⟨_, #[], 0, _, Heap.get?_push_size _ rfl, ⟨rfl, rfl, rfl⟩, rfl, (fun e he => by simp at he), by simp, List.nodup_nil, by decide, by rfl, List.Pairwise.nil, by
    cases e : w.params.followText "set-order"
    · exact .inr rfl
    · exact .inl rfl⟩
/-- members, first ones first -/
def keysOf : List Key → List Key → List Key
  | acc, [] => acc
  | acc, k :: r => keysOf (addK acc k) r
theorem addK_len {ks : List Key} {k : Key} : (addK ks k).length ≤ ks.length + 1 := by
  unfold addK
  split
  · omega
  · simp
theorem keysOf_snoc : ∀ (r acc : List Key) (k : Key), keysOf acc (r ++ [k]) = addK (keysOf acc r) k
  | [], _, _ => rfl
  | x :: r, acc, k => keysOf_snoc r (addK acc x) k
theorem keysOf_len : ∀ (r acc : List Key), (keysOf acc r).length ≤ acc.length + r.length
  | [], acc => Nat.le_add_right _ _
  | x :: r, acc => Nat.le_trans (keysOf_len r (addK acc x)) (by have := addK_len (ks := acc) (k := x); rw [List.length_cons]; omega)
/-- set(..)'s walk -/
theorem set_loop {I D : Addr} {fp wr : List Addr} {G : Array GenState → Array GenState → Prop} {n : Nat} {Pv : Nat → Value → Prop} {St : Nat → Shared → Prop} {R : Result → Shared → Prop} {ks : List Key}
    (W : WalksS P w A.in1 I fp wr G n Pv St) (hD : D ∉ fp) (hk : ∀ i v, Pv i v → ∃ k, ks[i]? = some k ∧ keyIs k v = true) (hn : ks.length = n) (hb : n + 1 < scanBound) : ∀ (m i : Nat) (s : Shared), n - i = m → i ≤ n → St i s → SetM w s.heap D (keysOf [] (ks.take i)) →
      (∀ s', Moved (D :: wr) G s s' → SetM w s'.heap D (keysOf [] ks) → R (.ok (.ret .none)) s') → codeAny (model P w) A (.builtin "set.update.loop" ⟨[.ref D, .ref I], []⟩) R s := by
  have hDw : D ∉ wr := fun h => hD (W.sub _ h)
  have up : ∀ b ∈ wr, b ∈ D :: wr := fun b hb => List.mem_cons_of_mem _ hb
  intro m
  induction m with
  | zero =>
    intro i s hm hi st S hR
    obtain rfl : i = n := by omega
    refine codeAny_builtin PyProof.Rows.F.entry_set_update_loop ?_
    rw [Around.under_plainId PyProof.Rows.F.plain_set_update_loop _]
    show wpAny _ A.in1 (pyNext (.ref I) >>= _) _ _ s
    refine wpAny_bind (W.done s _ _ st fun s' mv => ?_)
    show wpAny _ A.in1 (ret Value.none) _ _ s'
    rw [← hn, List.take_length] at S
    exact wpAny_pure (hR s' (mv.mono up) (S.stays fun o ho => mv.heap D _ hDw ho))
  | succ m ih =>
    intro i s hm hi st S hR
    have hlt : i < n := by omega
    refine codeAny_builtin PyProof.Rows.F.entry_set_update_loop ?_
    rw [Around.under_plainId PyProof.Rows.F.plain_set_update_loop _]
    show wpAny _ A.in1 (pyNext (.ref I) >>= _) _ _ s
    refine wpAny_bind (W.item i s _ _ hlt st fun v s' hP st' mv => ?_)
    obtain ⟨k, ek, hkv⟩ := hk i v hP
    have S' := S.stays fun o ho => mv.heap D _ hDw ho
    have hsc : v.scannable = true := by rcases keyIs_shape hkv with ⟨i, t, _, e⟩ | ⟨z, t, _, e⟩ <;> rw [e] <;> rfl
    have room : (keysOf [] (ks.take i)).length + 1 < scanBound := by
      have := keysOf_len (ks.take i) []
      rw [List.length_take, List.length_nil] at this
      omega
    show wpAny _ A.in1 (holding [v] (setAdd D v) >>= _) _ _ s'
    refine wpAny_bind (wpAny_holding ?_)
    unfold setAdd
    refine wpAny_holding (wpAny_bind ((mixKind P w).pyHash hkv ?_))
    refine setM_hashed (s := { s' with toks := s'.toks + 1 }) S' hkv hsc room fun h' b sb S2 => ?_
    have e2 : ks.take (i + 1) = ks.take i ++ [k] := by rw [List.take_succ, ek]; rfl
    refine wpAny_pure ⟨plainId_quiet PyProof.Rows.F.plain_set_update_loop _, ih (i + 1) _ (by omega) hlt (W.frame _ s' _ _ st' (Nat.le_succ _) fun b hb o e => ?_) (by rw [e2, keysOf_snoc]; exact S2) fun s'' mv2 S3 => ?_⟩
    · rw [sb.2 b (fun z => hD (z ▸ hb))]; exact e
    · refine hR s'' (Moved.trans W.gtrans ((mv.mono up).then_heap (Nat.le_succ _) fun b o hb e => ?_) mv2) S3
      rw [sb.2 b (fun z => hb (by rw [z]; exact List.mem_cons_self))]; exact e
/-- set(x) makes its object first -/
theorem set_made (a : Value) {Q₁ : Value → Shared → Prop}
    (h : Q₁ (.ref s.heap.objs.size) { s with heap := s.heap.push { cls := .type "set", dict := none, data := .set #[] 0 (.fresh 0 0 (!w.params.followText "set-order")) } }) :
    codeAny (model P w) A (.call (.builtin "set.__new__") ⟨[.type "set", a], []⟩) (wants Q₁ E) s := by
  refine codeAny_of_tree ?_
  show wpAny _ A.in1 (do checkBuiltinCall "set.__new__" ⟨[.type "set", a], []⟩; again (.builtin "set.__new__" ⟨[.type "set", a], []⟩)) _ _ s
  refine wpAny_bind (wpAny_of_eq (PySem.F.newCall_set_1 a) (wpAny_pure ⟨plainId_quiet PySem.F.plain_set_new _, codeAny_builtin PySem.F.entry_set_new ?_⟩))
  rw [Around.under_plainId PySem.F.plain_set_new _]
  unfold Builtin.«set.__new__» Builtin.Frozenset.newClass
  have hsub := sub_set_self
  obtain ⟨hp, g, d, tk, os⟩ := s
  dsimp only
  wp_walk
  refine wpAny_askSetting (wpAny_pure ?_)
  dsimp only
  simp only [newObj]
  exact wpAny_bind (wpAny_alloc (wpAny_pure (wpAny_pure h)))
theorem set_of_seq {T : String} {l : Addr} {items : Array Value} {ks : List Key} {Q : Value → Shared → Prop} (hh : A.handled = none) (hT0 : T = "list" ∨ T = "tuple") (hl : ∃ o, s.heap.get? l = some o ∧ o.cls = .type T ∧ ∃ n, o.data = .seq items n) (hk : ∀ (i : Nat) (v : Value), items[i]? = some v → ∃ k, ks[i]? = some k ∧ keyIs k v = true) (hn : ks.length = items.size) (hb : items.size + 1 < scanBound)
    (h : ∀ (h' : Heap) (tk : Nat), SetM w h' s.heap.objs.size (keysOf [] ks) → (∀ b o, s.heap.get? b = some o → h'.get? b = some o) → Q (.ref s.heap.objs.size) { s with heap := h', toks := tk }) :
    wpAny (model P w) A (call (.type "set") [.ref l]) Q E s := by
  obtain ⟨c, tl, hmro⟩ := PySem.F.called_set.mro
  have hmade := PySem.F.called_set.made
  have hsub := PySem.F.called_set.sub
  have h1 := PySem.F.called_set.notType
  have h2 := PySem.F.called_set.canCreate
  have hct := PySem.F.typeCall_set_1 (.ref l)
  refine wpAny_call (codeAny_of_tree ?_)
  show wpAny _ _ (callAny (.type "set") _) _ _ _
  refine wpAny_pure ⟨Code.quiet_builtin _ (by decide +kernel), codeAny_builtin PySem.F.entry_type_call ?_⟩
  rw [Around.under_plain (weight_type_call_type "set" [.ref l] []) rfl]
  repeat (any_goals (first | assumption | wp_step))
  generalize hnew : ({ cls := .type "set", dict := none, data := .set #[] 0 (.fresh 0 0 (!w.params.followText "set-order")) } : Obj) = oS
  refine codeAny_mono (set_made (.ref l) (E := E) (Q₁ := fun v s₁ => v = .ref s.heap.objs.size ∧ s₁ = { s with heap := s.heap.push oS }) ⟨rfl, by rw [hnew]⟩) fun r s₁ hr => ?_
  cases r with
  | error e => exact hr
  | ok fl =>
    cases fl with
    | next => exact hr.elim
    | brk => exact hr.elim
    | cont => exact hr.elim
    | ret v =>
      obtain ⟨rfl, rfl⟩ := hr
      have at0 : (s.heap.push oS).get? s.heap.objs.size = some oS := Heap.get?_push_size _ (by rw [← hnew]; rfl)
      have hcl : oS.cls = .type "set" := by rw [← hnew]
      have hT : Shared.TypeIs { s with heap := s.heap.push oS } (.ref s.heap.objs.size) "set" := ⟨_, at0, hcl⟩
      have hli := PySem.F.called_set.init.lookup
      have hbi := PySem.F.called_set.init.bind (.ref s.heap.objs.size)
      repeat (any_goals (first | assumption | wp_step))
      refine codeAny_mono (codeAny_call_builtin (R := wants (fun r s₂ => r = .none ∧ ∃ h' tk, s₂ = { s with heap := h', toks := tk } ∧ SetM w h' s.heap.objs.size (keysOf [] ks) ∧ ∀ b o, s.heap.get? b = some o → h'.get? b = some o) E) PySem.F.called_set.init.plain PySem.F.entry_set_init (check_set_init_1 hT ?_)) fun r₂ s₂ hr₂ => ?_
      · have fr : SetM w (s.heap.push oS) s.heap.objs.size [] := by rw [← hnew]; exact setM_fresh
        subst hnew
        obtain ⟨⟨ocls, odict, odata, oslots⟩, hol, hc2, nl, hd2⟩ := hl
        simp only at hc2 hd2
        subst hc2
        subst hd2
        have hol1 : (s.heap.push { cls := .type "set", dict := none, data := .set #[] 0 (.fresh 0 0 (!w.params.followText "set-order")) }).get? l = some { cls := .type T, dict := odict, data := .seq items nl, slots := oslots } := Heap.get?_push_of_some _ hol
        have hsls : isSubtype (.type T) (.type "set") = pure false := by rcases hT0 with rfl | rfl <;> first | exact PySem.F.sub_list_set | exact PySem.F.sub_tuple_set
        have hslf : isSubtype (.type T) (.type "frozenset") = pure false := by rcases hT0 with rfl | rfl <;> first | exact PySem.F.sub_list_frozenset | exact PySem.F.sub_tuple_frozenset
        have hne : (Value.type T == Value.type "dict") = false := by rcases hT0 with rfl | rfl <;> decide
        have lt : l < s.heap.objs.size := Heap.lt_size hol
        have sz : (s.heap.push { cls := .type "set", dict := none, data := .set #[] 0 (.fresh 0 0 (!w.params.followText "set-order")) }).objs.size = s.heap.objs.size + 1 := Heap.size_push ..
        unfold Builtin.«set.__init__» noKeywords Builtin.Frozenset.updateFrom
        generalize hPI : pyIter = PI
        wp_walk
        subst hPI
        have hh3 : A.in1.in1.in1.handled = none := by simp [hh]
        rcases hT0 with rfl | rfl
        · have hl1 : (s.heap.push { cls := .type "set", dict := none, data := .set #[] 0 (.fresh 0 0 (!w.params.followText "set-order")) }).IsList l items := ⟨_, hol1, rfl, nl, rfl⟩
          refine wpAny_pyIter_list hl1 ?_
          refine wpAny_bind (wpAny_runValue ?_)
          refine set_loop (ks := ks) ((Walks.list hh3 _ l (by rw [sz]; exact Nat.ne_of_lt (Nat.lt_succ_of_lt lt)) items).toS) (D := s.heap.objs.size) (by rw [sz]; simp only [List.mem_cons, List.not_mem_nil, or_false, not_or]; exact ⟨Nat.ne_of_lt (Nat.lt_succ_self _), Nat.ne_of_gt lt⟩) hk hn hb (items.size - 0) 0 _ (by omega) (Nat.zero_le _) ⟨⟨_, Heap.get?_push_size _ rfl, rfl, rfl⟩, hl1.push _⟩ (fr.stays fun o e => Heap.get?_push_of_some _ e) fun s' mv S' => ?_
          obtain ⟨h', g', d', tk', os'⟩ := s'
          obtain rfl : g' = s.gens := mv.gens
          obtain rfl : d' = s.drawn := mv.drawn
          obtain rfl : os' = s.os := mv.os
          show wpAny _ _ _ _ _ _
          refine wpAny_pure ?_
          show wpAny _ _ (ret Value.none) _ _ _
          refine wpAny_pure ⟨rfl, h', tk', rfl, S', fun b o e => ?_⟩
          have hb0 := Heap.lt_size e
          exact mv.heap b o (by rw [sz]; simp only [List.mem_cons, List.not_mem_nil, or_false, not_or]; exact ⟨Nat.ne_of_lt hb0, Nat.ne_of_lt (Nat.lt_succ_of_lt hb0)⟩) (Heap.get?_push_of_some _ (Heap.get?_push_of_some _ e))
        · have hl1 : (s.heap.push { cls := .type "set", dict := none, data := .set #[] 0 (.fresh 0 0 (!w.params.followText "set-order")) }).IsTuple l items := ⟨_, hol1, rfl, nl, rfl⟩
          refine wpAny_pyIter_tuple hl1 ?_
          refine wpAny_bind (wpAny_runValue ?_)
          refine set_loop (ks := ks) ((Walks.tuple hh3 _ l (by rw [sz]; exact Nat.ne_of_lt (Nat.lt_succ_of_lt lt)) items).toS) (D := s.heap.objs.size) (by rw [sz]; simp only [List.mem_cons, List.not_mem_nil, or_false, not_or]; exact ⟨Nat.ne_of_lt (Nat.lt_succ_self _), Nat.ne_of_gt lt⟩) hk hn hb (items.size - 0) 0 _ (by omega) (Nat.zero_le _) ⟨⟨_, Heap.get?_push_size _ rfl, rfl, rfl⟩, hl1.push _⟩ (fr.stays fun o e => Heap.get?_push_of_some _ e) fun s' mv S' => ?_
          obtain ⟨h', g', d', tk', os'⟩ := s'
          obtain rfl : g' = s.gens := mv.gens
          obtain rfl : d' = s.drawn := mv.drawn
          obtain rfl : os' = s.os := mv.os
          show wpAny _ _ _ _ _ _
          refine wpAny_pure ?_
          show wpAny _ _ (ret Value.none) _ _ _
          refine wpAny_pure ⟨rfl, h', tk', rfl, S', fun b o e => ?_⟩
          have hb0 := Heap.lt_size e
          exact mv.heap b o (by rw [sz]; simp only [List.mem_cons, List.not_mem_nil, or_false, not_or]; exact ⟨Nat.ne_of_lt hb0, Nat.ne_of_lt (Nat.lt_succ_of_lt hb0)⟩) (Heap.get?_push_of_some _ (Heap.get?_push_of_some _ e))
      · cases r₂ with
        | error e => exact hr₂
        | ok fl₂ =>
          cases fl₂ with
          | next => exact hr₂.elim
          | brk => exact hr₂.elim
          | cont => exact hr₂.elim
          | ret r =>
            obtain ⟨rfl, h', tk, rfl, S', k'⟩ := hr₂
            repeat (any_goals (first | assumption | wp_step))
            exact h _ _ S' k'
end
end MM
end
section
set_option Elab.async false
set_option linter.all false
set_option maxRecDepth 100000
set_option maxHeartbeats 4000000
set_option autoImplicit false
namespace MM
open PySem PySem.Spec PyProof.Rows L2 PpSet
open PySem.W (EachIs)

/-! ### set comprehensions -/
def OM (w : World) (a : Addr) (ks : List Key) : HO := .ext fun h => SetM w h a ks
section
variable {X : Cx} {W : WX}
theorem om_ok {w : World} {P : Program} {H : Hp} {h : Heap} {a : Addr} {ks : List Key} (R : SetM w h a ks) : ObjOk P w H h a (OM w a ks) := ⟨R, R.there, fun h1 h2 p k => SetM.stays p k⟩
theorem om_get {pins : List (Addr × Obj)} {σ : L2.St} {H : Hp} {s : Shared} {a : Addr} {ks : List Key} (I : Inv X pins σ H s) (ha : H a = some (OM X.w a ks)) : SetM X.w s.heap a ks := (I.hok a _ ha).1
theorem om_add {pins : List (Addr × Obj)} {σ : L2.St} {H : Hp} {s : Shared} {E : Value → Shared → Prop} {D : Addr} {ks : List Key} {k : Key} {u : Value} {Q : Value → Shared → Prop} (I : Inv X pins σ H s) (hD : H D = some (OM X.w D ks)) (hk : keyIs k u = true) (room : ks.length + 1 < scanBound)
    (h : ∀ s', Inv X pins σ (upd H D (OM X.w D (addK ks k))) s' → Q .none s') : wpAny (model X.prog X.w) X.A (call (.builtin "set.add") [.ref D, u]) Q E s :=
  setM_add (om_get I hD) hk room fun h' sb R => h _ (I.write (e := D) (t' := s.toks + 1) (by rw [hD]; trivial) (.inl rfl) (fun b u hb hu => (sb.2 b hb).trans hu) R.there (om_ok R))
theorem kV_key {k : Key} {u : Value} (r : RelV (kV k) u) : keyIs k u = true := by
  cases k with
  | inl i => obtain ⟨t, rfl⟩ := (show ∃ t, u = Value.int i t from r); exact keyIs_int i t
  | inr x => obtain ⟨t, rfl⟩ := (show ∃ t, u = Value.str x t from r); exact keyIs_str x t
/-- what is owed: the walk, each turn, the end -/
def tScM (w : World) (wi : TI) (g : TG) (tt : TT) (te : TE) (vs : List Nat) : TE := fun σ H Q => wi σ H fun J H1 => ∀ D, H1 D = none → ∃ Z : Nat → Nat → Hp → Prop, (∃ m, Z 0 m (upd H1 D (OM w D []))) ∧ ∀ i m H, Z i m H →
  (J.stop i H ∧ Q (.ref D) H) ∨ (J.go i H ∧ ∃ Nx : Hp → Prop, (∀ H', Nx H' → ∃ m', m' < m ∧ Z (i + 1) m' H') ∧ ∀ x H', J.yld i H x H' → g x (wipe σ vs) H' fun σ2 H2 => wipe σ2 vs = wipe σ vs ∧ tt σ2 H2 fun b H3 =>
    if b = true then te σ2 H3 fun y H4 => ∃ (k : Key) (ks : List Key), y = kV k ∧ H4 D = some (OM w D ks) ∧ ks.length + 1 < scanBound ∧ Nx (upd H4 D (OM w D (addK ks k))) else Nx H3)
theorem pe_scM {elt tg iter : Expr} {ifs : List Expr} {scope : Scope} {own : List (Str × Nat)} {pos : Pos} {wi : TI} {g : TG} {tt : TT} {te : TE} (hc : X.calm = true) (hN : X.N.Nodup) (hi : PI X tg iter wi) (ok : BlkOk X.N X.env.scope scope own)
    (hg : ∀ (s : Shared) (H : Hp) (C : Addr) (cl : List (Str × Addr)) (fp : List Addr), PG (X.blk s H scope (compEnvC scope cl C X.env) fp) tg g) (ht : ∀ (s : Shared) (H : Hp) (C : Addr) (cl : List (Str × Addr)) (fp : List Addr), PTs (X.blk s H scope (compEnvC scope cl C X.env) fp) ifs tt)
    (he : ∀ (s : Shared) (H : Hp) (C : Addr) (cl : List (Str × Addr)) (fp : List Addr), PE (X.blk s H scope (compEnvC scope cl C X.env) fp) elt te) (hs : ∀ x, foldedSetIterable iter X.env x = pure x := by intro _; rfl) :
    PE X (.SetComp elt [⟨tg, iter, ifs, 0⟩] scope pos) (tScM X.w wi g tt te (own.map (·.2))) := by
  refine ⟨fun pins s σ H Q I h => ?_⟩
  rw [eval_SetComp]
  have frees_ : ∀ y ∈ scope.names, y.2 = .free → ∃ c, X.env.cells.lookup y.1 = some c := fun y hy e => (ok.free y hy e).elim (fun k => I.ok.has _ (.inl k)) fun k => I.ok.has _ (.inr k)
  refine wpAny_comprehension_free (use := none) rfl hs (closure_ok frees_) ok.kind (fun y hy e => by rw [ok.uniq y hy, e]) (thn (hi.run pins s σ H _ I h) fun xv s1 hx => thn hx fun itv s2 h2 => ?_)
  obtain ⟨it, fp, tn, J, H2, rfl, I2, T, st2, f2, q⟩ := h2
  refine newSet_ok (newEnv_comp ?_)
  obtain ⟨D, hD⟩ : ∃ D, D = s2.heap.objs.size := ⟨_, rfl⟩
  rw [← hD]
  have hDn : H2 D = none := I2.hok.fresh (Nat.le_of_eq hD.symm)
  obtain ⟨Z, ⟨m0, z0⟩, turn⟩ := q D hDn
  -- with the new set
  obtain ⟨s3, e3⟩ : ∃ s3 : Shared, s3 = { s2 with heap := s2.heap.push { cls := .type "set", dict := none, data := .set #[] 0 (.fresh 0 0 (!X.w.params.followText "set-order")) } } := ⟨_, rfl⟩
  rw [← e3]
  have h3 : s3.heap = s2.heap.push { cls := .type "set", dict := none, data := .set #[] 0 (.fresh 0 0 (!X.w.params.followText "set-order")) } := by rw [e3]
  have I3 : Inv X pins σ (upd H2 D (OM X.w D [])) s3 := by
    rw [e3]
    exact I2.laid (t' := s2.toks) (fun b o e => Heap.get?_push_of_some _ e) (Nat.le_of_eq hD.symm) (by rw [hD]; exact om_ok setM_fresh)
  have below : ∀ b ∈ fp, b < s2.heap.objs.size := fun b hb => let ⟨o, e, _⟩ := T.obj _ _ st2 b hb; Heap.lt_size e
  have f3 : ∀ b ∈ fp, FpOk X pins (upd H2 D (OM X.w D [])) b ∧ b < s3.heap.objs.size := fun b hb => by
    have hlt := below b hb
    refine ⟨⟨?_, (f2 b hb).2⟩, by rw [h3, Heap.size_push]; exact Nat.lt_succ_of_lt hlt⟩
    rw [upd_ne (by rw [hD]; exact Nat.ne_of_lt hlt)]
    exact (f2 b hb).1
  have st3 : tn 0 s3.heap := T.keep _ _ _ st2 fun b _ o e => by rw [h3]; exact Heap.get?_push_of_some _ e
  have I4 := block_start I3 ok hN f3
  have pg := hg s3 (upd H2 D (OM X.w D [])) s3.heap.objs.size (cellsFrom (s3.heap.objs.size + 1) scope.names (cloFrom X.env.cells scope.names [])) fp
  have pt := ht s3 (upd H2 D (OM X.w D [])) s3.heap.objs.size (cellsFrom (s3.heap.objs.size + 1) scope.names (cloFrom X.env.cells scope.names [])) fp
  have pe := he s3 (upd H2 D (OM X.w D [])) s3.heap.objs.size (cellsFrom (s3.heap.objs.size + 1) scope.names (cloFrom X.env.cells scope.names [])) fp
  have nfp : ∀ b ∈ fp, (upd H2 D (OM X.w D [])) b = none := fun b hb => (f3 b hb).1.1
  generalize hce : compEnvC scope (cellsFrom (s3.heap.objs.size + 1) scope.names (cloFrom X.env.cells scope.names [])) s3.heap.objs.size X.env = ce at I4 pg pt pe
  have cL : ce.locals = s3.heap.objs.size := by subst hce; rfl
  generalize hH3 : upd H2 D (OM X.w D []) = H3 at I3 I4 pg pt pe z0 nfp f3
  show codeAny _ _ (.compStart (.SetComp elt [⟨tg, iter, ifs, 0⟩] scope pos) 0 (.ref it) (.ref D) (compEnvC scope (cellsFrom (s3.heap.objs.size + 1) scope.names (cloFrom X.env.cells scope.names [])) s3.heap.objs.size X.env)) (compPost (model X.prog X.w) X.A X.xe none _ (.ref D) s3.heap.objs.size) { s3 with heap := pushCells (s3.heap.push { cls := .type "dict", data := .dict #[] }) scope.names }
  rw [hce]
  obtain ⟨s4, e4⟩ : ∃ s4 : Shared, s4 = { s3 with heap := pushCells (s3.heap.push { cls := .type "dict", data := .dict #[] }) scope.names } := ⟨_, rfl⟩
  rw [← e4] at I4 ⊢
  have st4 : tn 0 s4.heap := T.keep _ _ _ st3 fun b _ o e => by rw [e4]; exact pushCells_keeps _ _ _ _ (Heap.get?_push_of_some _ e)
  have stat : ∀ {σ' : L2.St} {H' : Hp} {s' : Shared}, Inv (X.blk s3 H3 scope ce fp) [] σ' H' s' → (∀ b ∈ fp, H' b = none) → ∀ b ∈ fp, FpOk (X.blk s3 H3 scope ce fp) [] H' b := fun {σ' H' s'} I' hn b hb =>
    ⟨hn b hb, (I'.ok.exf b hb).1, I'.ok.exfs b hb, .inl hb, fun x c e => (I'.ok.exf b hb).2 x c e, fun p hp => absurd (show p ∈ ([] : List (Addr × Obj)) ++ [] from hp) (by simp)⟩
  have loop : codeAny (model X.prog X.w) X.A (.compLoop (.SetComp elt [⟨tg, iter, ifs, 0⟩] scope pos) 0 (.ref it) (.ref D) ce) (compPost (model X.prog X.w) X.A X.xe none (EP X pins σ Q) (.ref D) s3.heap.objs.size) s4 := by
    refine compLoopS_any (fun n s' => ∃ i H', Inv (X.blk s3 H3 scope ce fp) [] (wipe σ (own.map (·.2))) H' s' ∧ tn i s'.heap ∧ (∀ b ∈ fp, H' b = none) ∧ Z i n H') ?_ m0 ⟨0, H3, I4, st4, nfp, z0⟩
    rintro n s5 ⟨i, H5, I5, st5, n5, z5⟩
    rcases turn i n H5 z5 with ⟨stop, fq⟩ | ⟨go, Nx, hNx, step⟩
    · refine thnF (T.done (X.blk s3 H3 scope ce fp) rfl rfl rfl hc i [] s5 _ H5 (fun _ _ => False) I5 (stat I5 n5) st5 stop) fun r s6 ⟨hr, I6⟩ => ?_
      subst hr
      have I7 : Inv X pins σ H5 s6 := I3.call' (ch := fp) I6.os I6.base I6.hok I6.bare fun b hb => let y := (f3 b hb).1.2; ⟨y.2.2.1, y.1, y.2.2.2.1, y.2.2.2.2⟩
      have nC : H5 s3.heap.objs.size = none := cL ▸ (show H5 ce.locals = none from I6.free)
      obtain ⟨m, hn, _⟩ := I6.loc
      have hn2 : s6.heap.Ns s3.heap.objs.size m := cL ▸ (show s6.heap.Ns ce.locals m from hn)
      obtain ⟨f0, f1, f2', f3', f4, f5⟩ := I3.fpOk (Nat.le_refl _) nC
      exact ⟨m, hn2, fun h'' sb => ⟨.ref D, H5, I7.turned (t' := s6.toks) (fun b o hb e => (sb.2 b hb).trans e) f0 f1 f3' f4 f5, rfl, fq⟩⟩
    · refine thnF (T.item (X.blk s3 H3 scope ce fp) rfl rfl rfl hc i [] s5 _ H5 (fun _ _ => False) I5 (stat I5 n5) st5 go) fun r s6 ⟨u, hr, h6⟩ => ?_
      subst hr
      refine thnF h6 fun _ s7 ⟨x, H7, I7, r7, y7, st7, n7⟩ => ?_
      refine thnF (pg.run _ s7 _ H7 x u _ (I7.pinned (stat I7 n7) (T.obj _ _ st7)) r7 (step x H7 y7)) fun _ s8 ⟨σ8, H8, I8, hw8, q8⟩ => ?_
      refine thnF (pt.run _ s8 σ8 H8 _ I8 q8) fun b s9 ⟨H9, I9, q9⟩ => ?_
      have fin : ∀ {s' : Shared} {H' : Hp}, Inv (X.blk s3 H3 scope ce fp) ([] ++ pinsAt fp s7.heap) σ8 H' s' → Nx H' → ∃ m, m < n ∧ ∃ i H', Inv (X.blk s3 H3 scope ce fp) [] (wipe σ (own.map (·.2))) H' s' ∧ tn i s'.heap ∧ (∀ b ∈ fp, H' b = none) ∧ Z i m H' := fun {s' H'} I' nx => by
        obtain ⟨m', hm, z'⟩ := hNx H' nx
        have pin' : ∀ b ∈ fp, ∀ o, s7.heap.get? b = some o → s'.heap.get? b = some o ∧ H' b = none := fun b hb o e =>
          have y := I'.pin (b, o) (List.mem_append_right _ (List.mem_append_right _ (mem_pinsAt hb e)))
          ⟨y.1, y.2.1⟩
        refine ⟨m', hm, i + 1, H', (I'.unpinned (pins := [])).weak (by rw [← hw8, wipe_length]) (fun j v e => (wipe_some (by rw [hw8]; exact e)).1), T.keep _ _ _ st7 fun b hb o e => (pin' b hb o e).1, fun b hb => ?_, z'⟩
        obtain ⟨o, e, _⟩ := T.obj _ _ st7 b hb
        exact (pin' b hb o e).2
      cases b with
      | false => exact fin I9 (by simpa using q9)
      | true =>
        rw [if_pos rfl] at q9 ⊢
        refine thnF (pe.run _ s9 σ8 H9 _ I9 q9) fun z s10 ⟨yv, H10, I10, r10, k, ks, ey, hD10, room, nx⟩ => ?_
        subst ey
        exact om_add (X := X.blk s3 H3 scope ce fp) I10 hD10 (kV_key r10) room fun s11 I11 => fin I11 nx
  exact codeAny_compStart_set loop (T.self X.A 0 _ _ _ st4 loop)
end
end MM
end
section
set_option Elab.async false
set_option linter.all false
set_option maxRecDepth 100000
set_option maxHeartbeats 4000000
set_option autoImplicit false
namespace MM
open PySem PySem.Spec PyProof.Rows L2 PpSet
open PySem.W (EachIs)

/-! ### the order of texts -/
theorem le_str {a b : Str} : PySem.W.dataLe false (fun d : PyData => d) (.str a) (.str b) = !decide (b.cps.toList < a.cps.toList) := by
  show (!PySem.W.dataLt (.str b) (.str a)) = _
  rw [PySem.W.dataLt_str]
theorem dataLe_total : PySem.W.TotalLe (PySem.W.dataLe false fun d : PyData => d) := PySem.W.sortLe_total _ _ _
theorem perm_const {α : Type} {l1 l2 : List α} (p : l1.Perm l2) (h : ∀ x ∈ l1, ∀ y ∈ l1, x = y) : l1 = l2 := by
  cases l1 with
  | nil => exact (List.Perm.nil_eq p)
  | cons a r =>
    have h1 : (a :: r) = List.replicate (a :: r).length a := List.eq_replicate_iff.mpr ⟨rfl, fun b hb => h b hb a (List.mem_cons_self ..)⟩
    have h2 : l2 = List.replicate l2.length a := List.eq_replicate_iff.mpr ⟨rfl, fun b hb => h b (p.mem_iff.mpr hb) a (List.mem_cons_self ..)⟩
    rw [h2, ← p.length_eq, ← h1]
theorem str_rank {a b : Str} (h : PySem.W.dataLe false (fun d : PyData => d) (.str a) (.str b) = true) (h' : PySem.W.dataLe false (fun d : PyData => d) (.str b) (.str a) = true) : a = b := by
  rw [le_str] at h h'
  have h1 : ¬ b.cps.toList < a.cps.toList := by simpa using h
  have h2 : ¬ a.cps.toList < b.cps.toList := by simpa using h'
  exact PySem.W.str_of_cps (List.le_antisymm h1 h2)
/-- sorted texts hang on the members alone -/
theorem sortD_perm {a b : List Str} (p : a.Perm b) : sortD (a.map .str) = sortD (b.map .str) := by
  refine PySem.W.sort_unique dataLe_total (PySem.W.sort_pairwise dataLe_total _) fun c => ?_
  have p2 : (sortD (a.map .str)).Perm (b.map .str) := (List.mergeSort_perm _ _).trans (p.map _)
  refine perm_const (p2.filter _) fun x hx y hy => ?_
  obtain ⟨x1, x2⟩ := List.mem_filter.mp hx
  obtain ⟨y1, y2⟩ := List.mem_filter.mp hy
  obtain ⟨u, _, rfl⟩ := List.mem_map.mp (p2.mem_iff.mp x1)
  obtain ⟨v, _, rfl⟩ := List.mem_map.mp (p2.mem_iff.mp y1)
  unfold PySem.W.sameRank at x2 y2
  simp only [Bool.and_eq_true] at x2 y2
  congr 1
  exact str_rank (dataLe_total.trans _ _ _ x2.2 y2.1) (dataLe_total.trans _ _ _ y2.2 x2.1)
theorem sortD_mem {ds : List PyData} {d : PyData} : d ∈ sortD ds ↔ d ∈ ds := List.mem_mergeSort
theorem sortD_len {ds : List PyData} : (sortD ds).length = ds.length := List.length_mergeSort _

/-! ### calls -/
section
variable {X : Cx} {W : WX}
theorem keys_vals : ∀ {ks : List Key} {us : List Value}, Vals (ks.map kV) us → ∀ (i : Nat) (v : Value), us[i]? = some v → ∃ k, ks[i]? = some k ∧ keyIs k v = true
  | [], _, r, i, v, e => by cases r; cases e
  | k :: ks, _, r, i, v, e => by
    cases r with
    | cons r1 r2 =>
      cases i with
      | zero => cases e; exact ⟨k, rfl, kV_key r1⟩
      | succ i => exact keys_vals r2 i v e
def rSetL (w : World) (K : PySem.W.Frag) : List V → Hp → VK → Prop := fun vs H Q => ∃ (a : Addr) (ks : List Key), vs = [.ref a] ∧ (PlnL K H a (ks.map kV) ∨ SqT K H a (ks.map kV)) ∧ ks.length + 1 < scanBound ∧ ∀ p, H p = none → Q (.ref p) (upd H p (OM w p (keysOf [] ks)))
theorem cr_setL (hc : X.calm = true) : CallR X (.type "set") (rSetL X.w X.K) := by
  intro pins s σ H vs us Q I r h
  obtain ⟨a, ks, rfl, ha, hz, q⟩ := h
  rw [Vals.ref1 r]
  have go : ∀ {T : String} {its : List Value}, T = "list" ∨ T = "tuple" → (∃ o, s.heap.get? a = some o ∧ o.cls = .type T ∧ ∃ n, o.data = .seq its.toArray n) → Vals (ks.map kV) its → wpAny (model X.prog X.w) X.A (call (.type "set") [.ref a]) (EP X pins σ Q) X.xe s := fun {T its} hT ho rv => by
    have hl : ks.length = its.length := by rw [← rv.length, List.length_map]
    refine set_of_seq (I.ok.hd hc) hT ho (ks := ks) (fun i v e => keys_vals rv i v (by simpa using e)) (by rw [List.size_toArray]; exact hl) (by rw [List.size_toArray, ← hl]; exact hz) fun h' tk R k => ?_
    exact ⟨.ref _, upd H s.heap.objs.size (OM X.w s.heap.objs.size (keysOf [] ks)), I.laid (t' := tk) k (Nat.le_refl _) (om_ok R), rfl, q _ (I.hok.fresh (Nat.le_refl _))⟩
  rcases ha with ha | ha
  · obtain ⟨its, n, ho, rv, _⟩ := PlnL.obj I ha
    exact go (.inl rfl) ⟨_, ho, rfl, n, rfl⟩ rv
  · obtain ⟨its, rv, ⟨o, ho, hcl, n, hdt⟩, _⟩ := I.tuple ha
    exact go (.inr rfl) ⟨o, ho, hcl, n, hdt⟩ rv
def rLenM (w : World) : List V → Hp → VK → Prop := fun vs H Q => ∃ (a : Addr) (ks : List Key), vs = [.ref a] ∧ H a = some (OM w a ks) ∧ Q (.int ks.length) H
theorem cr_lenM : CallR X (.builtin "len") (rLenM X.w) := by
  intro pins s σ H vs us Q I r h
  obtain ⟨a, ks, rfl, ha, q⟩ := h
  rw [Vals.ref1 r]
  obtain ⟨o, es, ep, t, ho, hx, hd, g, p, nd, hb, hf, _⟩ := om_get I ha
  have hz := SetM.size p
  have h4 : scanBound = 4096 := rfl
  refine call_len_set ho hx hd hf (by omega) ?_
  rw [hz]
  exact ⟨.int ks.length, H, I.tok _, ⟨_, rfl⟩, q⟩
def rSortedM (w : World) (K : PySem.W.Frag) : List V → Hp → VK → Prop := fun vs H Q => ∃ (a : Addr) (ls : List Str), vs = [.ref a] ∧ H a = some (OM w a (ls.map Sum.inr)) ∧ (∀ z ∈ ls, PyData.strOk z = true) ∧
  ∀ p ys, FDs K H (sortD (ls.map .str)) ys → H p = none → Q (.ref p) (upd H p (.lst ys))
theorem sortOk_strs {ls : List Str} (h : ∀ z ∈ ls, PyData.strOk z = true) : sortOk (ls.map .str) = true := by
  unfold sortOk
  simp only [Bool.and_eq_true, Bool.or_eq_true, List.all_eq_true]
  refine ⟨⟨fun x hx y hy => ?_, .inr fun x hx => ?_⟩, ?_⟩
  · obtain ⟨u, _, rfl⟩ := List.mem_map.mp hx
    obtain ⟨v, _, rfl⟩ := List.mem_map.mp hy
    rfl
  · obtain ⟨u, _, rfl⟩ := List.mem_map.mp hx
    rfl
  · have l0 : ∀ {ls : List Str}, (∀ z ∈ ls, PyData.strOk z = true) → PyData.canLayAll0 (ls.map .str) = true ∧ PyData.depthAll (ls.map .str) = 0 := by
      intro ls h
      induction ls with
      | nil => exact ⟨rfl, rfl⟩
      | cons z r ih =>
        obtain ⟨i1, i2⟩ := ih fun y hy => h y (List.mem_cons_of_mem _ hy)
        simp only [List.map_cons, PyData.canLayAll0, PyData.depthAll, PyData.canLay0, PyData.depth, i1, i2, h z (List.mem_cons_self ..)]
        exact ⟨rfl, rfl⟩
    obtain ⟨l1, l2⟩ := l0 h
    unfold SeqAt.shaped
    simp only [PyData.canLay0, PyData.depth, l1, l2]
    rfl
theorem strs_FDs {K : PySem.W.Frag} {H : Hp} : ∀ ls : List Str, FDs K H (ls.map .str) (ls.map .str)
  | [] => .nil
  | z :: r => .cons (.str z) (strs_FDs r)
theorem vals_keys : ∀ {us : List Value} {ls : List Str}, (∀ u ∈ us, ∃ z t, u = .str z t) → ls = us.map (fun u => match u with | .str z _ => z | _ => Str.empty) → Vals (ls.map .str) us
  | [], _, _, e => by subst e; exact .nil
  | u :: us, _, h, e => by
    subst e
    obtain ⟨z, t, rfl⟩ := h u (List.mem_cons_self ..)
    exact .cons ⟨t, rfl⟩ (vals_keys (fun v hv => h v (List.mem_cons_of_mem _ hv)) rfl)
theorem cr_sortedM (hc : X.calm = true) (hu : X.A.units + 70 < cLine) : CallR X (.builtin "sorted") (rSortedM X.w X.K) := by
  intro pins s σ H vs us Q I r h
  obtain ⟨a, ls, rfl, ha, hok, q⟩ := h
  rw [Vals.ref1 r]
  obtain ⟨o, es, ep, t, ho, hx, hd, g, p, nd, hb, hf, hr, hl⟩ := om_get I ha
  have h4 : scanBound = 4096 := rfl
  have h16 : sizeLine = 16777216 := sizeLine_eq
  have hz : es.size = ls.length := by rw [SetM.size p, List.length_map]
  -- what stands in the set are these texts
  have mem : ∀ e ∈ es.toList, ∃ z t, e.2 = .str z t ∧ keyE e = .inr z := fun e he => by
    obtain ⟨z, _, hz⟩ := List.mem_map.mp (p.mem_iff.mp (List.mem_map_of_mem (f := keyE) he))
    have k := (g e he).1
    rw [← hz] at k
    rcases keyIs_shape k with ⟨i, t, e1, _⟩ | ⟨y, t, e1, e2⟩
    · cases e1
    · cases e1; exact ⟨z, t, e2, hz.symm⟩
  -- in whatever order they are told
  have main : ∀ out : List Value, out.Perm (es.toList.map (·.2)) → ∃ ks : List Str, Vals (ks.map .str) out ∧ ks.Perm ls := fun out po => by
    refine ⟨out.map (fun u => match u with | .str z _ => z | _ => Str.empty), vals_keys (fun u hu => ?_) rfl, ?_⟩
    · obtain ⟨e, he, rfl⟩ := List.mem_map.mp (po.mem_iff.mp hu)
      obtain ⟨z, t, e2, _⟩ := mem e he
      exact ⟨z, t, e2⟩
    · have p1 := po.map (fun u => match u with | .str z _ => z | _ => Str.empty)
      rw [List.map_map] at p1
      refine p1.trans ?_
      have e : es.toList.map ((fun u => match u with | .str z _ => z | _ => Str.empty) ∘ (·.2)) = (es.toList.map keyE).map (fun k => match k with | .inr z => z | .inl _ => Str.empty) := by
        rw [List.map_map]
        refine List.map_congr_left fun e he => ?_
        obtain ⟨z, t, e2, e3⟩ := mem e he
        simp only [Function.comp, e2, e3]
      rw [e]
      have p2 := p.map (fun k : Key => match k with | .inr z => z | .inl _ => Str.empty)
      have e9 : (ls.map Sum.inr).map (fun k : Key => match k with | .inr z => z | .inl _ => Str.empty) = ls := by
        rw [List.map_map]
        exact List.map_id _
      rw [e9] at p2
      exact p2
  refine Calls.call_function_entry kind_sorted plain_sorted entry_sorted (args_sorted1 _) ?_
  unfold Builtin.«sorted»
  refine wpAny_bind (m := checkCount "sorted" 1 1 _) (wpAny_pure ?_)
  refine wpAny_bind (collect_set (A := X.A.in1) (I.ok.hd hc) ⟨o, ho, hx.1, hd⟩ hf hb hr hl fun s1 out k1 _ g1 o1 po => ?_)
  obtain ⟨ks, rv, pk⟩ := main out po
  have hks : ∀ z ∈ ks, PyData.strOk z = true := fun z hz => hok z (pk.mem_iff.mp hz)
  obtain ⟨hal, hsk, hnd, hdz⟩ := sortOk_ok (sortOk_strs hks)
  have e0 := FDs.each I (strs_FDs ks) rv hnd
  have hlen : out.length = ls.length := by rw [po.length_eq, List.length_map, Array.length_toList]; exact hz
  have e1 : EachIs (fun v d => ∃ as, Reads s1.heap v d as) out (ks.map .str) := e0.mono fun v d ⟨⟨as, r⟩, _⟩ => ⟨as, Reads.keeps k1 r⟩
  refine sorted_tail (A := X.A) (ds := ks.map .str) e1 hal hsk (fun d hd => by have := hdz d hd; omega) (by omega) fun h' c h2 k2 k3 hp => ?_
  have e2 : EachIs (fun v d => ∃ x, FD X.K H d x ∧ RelV x v) (PySem.W.sortVals (PySem.W.dataKind h2 (ks.map .str)) false out out) (sortD (ks.map .str)) :=
    PySem.W.sortVals_each (κ := PySem.W.dataKind h2 (ks.map .str)) (k := PySem.W.keyToks) (e0.mono fun v d q => q.2) (PySem.W.each_keys hal (e1.mono fun v d ⟨as, r⟩ => ⟨as, Reads.keeps k3 r⟩))
  obtain ⟨ys, f1, f2⟩ := each_vals e2
  obtain ⟨n1, n2⟩ := new_at I k1
  have hz2 : ys.length ≤ sizeLine := by
    rw [← f1.len, sortD_len, List.length_map, pk.length_eq]; omega
  have kk : ∀ b u, s.heap.get? b = some u → h'.get? b = some u := fun b u e => k2 b u (k1 b u e)
  have J2 : Inv X pins σ (upd H s1.heap.objs.size (.lst ys)) { s1 with heap := h' } :=
    I.call' (s' := { s1 with heap := h' }) (ch := []) o1 (Un.laidN kk n1 n2) (I.hok.laidN kk n2 ⟨hz2, _, c, f2, hp⟩) (by show AllBare s1.gens; rw [g1]; exact I.bare) (fun _ z => nomatch z)
  rw [sortD_perm pk] at f1
  exact ⟨.ref _, _, J2, rfl, q _ ys f1 n2⟩
end
end MM
end
section
set_option Elab.async false
set_option linter.all false
set_option maxRecDepth 100000
set_option maxHeartbeats 4000000
set_option autoImplicit false
namespace MM
open PySem PySem.Spec PyProof.Rows L2 PpSet
open PySem.W (EachIs)

/-! ### mirrors of sets: sorted, len -/
def keyO : Mv → Option Key
  | .d (.int i) => some (.inl i)
  | .d (.str z) => some (.inr z)
  | _ => none
def keysL : List Mv → Option (List Key)
  | [] => some []
  | x :: r => match keyO x, keysL r with | some k, some ks => some (k :: ks) | _, _ => none
def kstrs : List Key → Option (List Str)
  | [] => some []
  | .inr z :: r => (kstrs r).map (z :: ·)
  | .inl _ :: _ => none
noncomputable def sortK (ks : List Key) : Option Nw := match kstrs ks with
  | some ls => if (ls.all fun z => PyData.strOk z) = true then some (.lst ((sortD (ls.map .str)).map .d)) else none
  | none => none
noncomputable def gSortSet : Sg → List Mv → Option Nw := fun S xs => match xs with
  | [x] => match x.seq S with
    | some (_, ys) => match keysL ys with
      | some ks => if ks.length + 1 < 4096 then sortK (keysOf [] ks) else none
      | none => none
    | none => none
  | _ => none
def gLenSet : Sg → List Mv → Option Nw := fun S xs => match xs with
  | [x] => match x.seq S with
    | some (_, ys) => match keysL ys with
      | some ks => if ks.length + 1 < 4096 then some (.val (.d (.int (keysOf [] ks).length))) else none
      | none => none
    | none => none
  | _ => none
theorem keyO_ok {K : PySem.W.Frag} {ι : Io} {H : Hp} {x : Mv} {v : V} {k : Key} (hx : XV K ι H x v) (e : keyO x = some k) : v = kV k := by
  cases x with
  | d y =>
    cases y with
    | int i => cases e; cases hx; rfl
    | str z => cases e; cases hx; rfl
    | _ => cases e
  | _ => cases e
theorem keysL_ok {K : PySem.W.Frag} {ι : Io} {H : Hp} : ∀ {ys : List Mv} {vs : List V} {ks : List Key}, XCs K ι H ys vs → keysL ys = some ks → vs = ks.map kV
  | _, _, _, .nil, e => by cases e; rfl
  | _, _, _, .cons (a := x) r t, e => by
    simp only [keysL] at e
    split at e
    · rename_i k ks e1 e2
      cases e
      rw [keyO_ok r.2 e1, keysL_ok t e2]; rfl
    · cases e
theorem kstrs_ok : ∀ {ks : List Key} {ls : List Str}, kstrs ks = some ls → ks = ls.map Sum.inr
  | [], _, e => by cases e; rfl
  | .inr z :: r, _, e => by
    simp only [kstrs, Option.map_eq_some_iff] at e
    obtain ⟨l, e1, rfl⟩ := e
    rw [kstrs_ok e1]; rfl
  | .inl _ :: _, _, e => by cases e
section
variable {X : Cx} {W : WX}
/-- what is behind sorted(..) of a set -/
theorem sortK_raw {ι : Io} {S : Sg} {H : Hp} {Q : VK} {D : Addr} {ks : List Key} {z : Nw} (ha : H D = some (OM X.w D ks)) (e : sortK ks = some z) (q : Raw X.K ι H Q z) : rSortedM X.w X.K [.ref D] H Q := by
  unfold sortK at e
  split at e
  · rename_i ls e1
    split at e
    · rename_i c
      cases e
      refine ⟨D, ls, rfl, by rw [← kstrs_ok e1]; exact ha, fun z hz => List.all_eq_true.mp c z hz, fun p ys f hp => q ys p (FDs.xcs f) hp⟩
    · cases e
  · cases e
theorem seq_cases {K : PySem.W.Frag} {ι : Io} {S : Sg} {H : Hp} {x : Mv} {v : V} {t : Bool} {ys : List Mv} {ks : List Key} (hr : Rl K ι S H) (hx : XV K ι H x v) (e : x.seq S = some (t, ys)) (e2 : keysL ys = some ks) : ∃ a, v = .ref a ∧ (PlnL K H a (ks.map kV) ∨ SqT K H a (ks.map kV)) := by
  obtain ⟨a, vs, rfl, h1, h2⟩ := Mv.seq_ok hr hx e
  rw [keysL_ok h2 e2] at h1
  refine ⟨a, rfl, ?_⟩
  cases t with
  | true => exact .inr h1
  | false => exact .inl h1
variable {x x2 : Str} {p p2 pos pos2 : Pos} {e : Expr} {ma : MA}
theorem pm_sortSet (b : Bi) (hc : X.calm = true) (hu : X.A.units + 70 < cLine) (hg : Gl X "sorted") (hm : X.mg "sorted" = none) (hg2 : Gl X "set") (hm2 : X.mg "set" = none) (ha : PL X W [e] ma)
    (he : starEach [e] X.env = (false, eval e X.env) :: starEach [] X.env := by rfl) (he2 : starEach [.Call (.Name "set" p2) [e] [] pos2] X.env = (false, eval (.Call (.Name "set" p2) [e] [] pos2) X.env) :: starEach [] X.env := by rfl) :
    PM X W (.Call (.Name "sorted" p) [.Call (.Name "set" p2) [e] [] pos2] [] pos) (mCB b gSortSet ma) := by
  refine pe_imp (pe_b b (pe_callB (cr_sortedM hc hu) hg hm (by decide +kernel) (pa_cons (pe_callTy (cr_setL hc) hg2 hm2 (by decide +kernel) ha (he := he)) pa_nil he2) (he := he2))) fun σ H Q h => ?_
  obtain ⟨ι, S, ρ, hl, hr, h⟩ := h
  refine ⟨ι, S, ρ, hl, hr, step h fun xs vs ι1 H1 S1 s1 r1 hx h1 => ?_⟩
  unfold opt at h1
  split at h1
  · rename_i z e1
    unfold gSortSet at e1
    split at e1
    · rename_i y
      obtain ⟨v, rfl, hv⟩ := one_of hx
      split at e1
      · rename_i t ys e2
        split at e1
        · rename_i ks e3
          split at e1
          · rename_i c
            obtain ⟨a, rfl, hs⟩ := seq_cases r1 hv e2 e3
            refine ⟨a, ks, rfl, hs, c, fun D hD => ?_⟩
            obtain ⟨r2, s2⟩ := r1.beside (u := OM X.w D (keysOf [] ks)) hD
            exact sortK_raw (S := S1) upd_same e1 (bear_raw r2 (h1.sub s2))
          · cases e1
        · cases e1
      · cases e1
    · cases e1
  · exact h1.elim
theorem pm_lenSet (hc : X.calm = true) (hg : Gl X "len") (hm : X.mg "len" = none) (hg2 : Gl X "set") (hm2 : X.mg "set" = none) (ha : PL X W [e] ma)
    (he : starEach [e] X.env = (false, eval e X.env) :: starEach [] X.env := by rfl) (he2 : starEach [.Call (.Name "set" p2) [e] [] pos2] X.env = (false, eval (.Call (.Name "set" p2) [e] [] pos2) X.env) :: starEach [] X.env := by rfl) :
    PM X W (.Call (.Name "len" p) [.Call (.Name "set" p2) [e] [] pos2] [] pos) (mCB .ref gLenSet ma) := by
  refine pe_imp (pe_b .ref (pe_callB cr_lenM hg hm PySem.boot_len (pa_cons (pe_callTy (cr_setL hc) hg2 hm2 (by decide +kernel) ha (he := he)) pa_nil he2) (he := he2))) fun σ H Q h => ?_
  obtain ⟨ι, S, ρ, hl, hr, h⟩ := h
  refine ⟨ι, S, ρ, hl, hr, step h fun xs vs ι1 H1 S1 s1 r1 hx h1 => ?_⟩
  unfold opt at h1
  split at h1
  · rename_i z e1
    unfold gLenSet at e1
    split at e1
    · rename_i y
      obtain ⟨v, rfl, hv⟩ := one_of hx
      split at e1
      · rename_i t ys e2
        split at e1
        · rename_i ks e3
          split at e1
          · rename_i c
            cases e1
            obtain ⟨a, rfl, hs⟩ := seq_cases r1 hv e2 e3
            refine ⟨a, ks, rfl, hs, c, fun D hD => ?_⟩
            obtain ⟨r2, s2⟩ := r1.beside (u := OM X.w D (keysOf [] ks)) hD
            exact ⟨D, keysOf [] ks, rfl, upd_same, h1.sub s2 _ _ _ (Sub.refl _ _) r2 (.int _)⟩
          · cases e1
        · cases e1
      · cases e1
    · cases e1
  · exact h1.elim

/-! ### set comprehensions -/
def scLoop (g : MG) (tt : MT) (te : ME) (ρ : Rho) : List Mv → List Key → Sg → Res (List Key)
  | [], ks, S => .ok ks S
  | x :: xs, ks, S => match g S x ρ with
    | none => .bad
    | some ρ1 => (tt ρ1 S).bind fun k S1 => if k = true then (te ρ1 S1).bind fun y S2 => match keyO y with
        | some k => if ks.length + 1 < 4096 then scLoop g tt te ρ xs (addK ks k) S2 else .bad
        | none => .bad
      else scLoop g tt te ρ xs ks S1
noncomputable def mSortSc (b : Bi) (mi : MA) (g : MG) (tt : MT) (te : ME) (vs : List Nat) : ME := fun ρ S => (mi ρ S).bind fun xs S1 => (scLoop g tt te (wipeM ρ vs) xs [] S1).nox.bind fun ks S2 => opt (sortK ks) fun z => bear b z S2
def mLenSc (mi : MA) (g : MG) (tt : MT) (te : ME) (vs : List Nat) : ME := fun ρ S => (mi ρ S).bind fun xs S1 => (scLoop g tt te (wipeM ρ vs) xs [] S1).nox.bind fun ks S2 => .ok (.d (.int ks.length)) S2
theorem sc_core {ts vs : List Nat} {mi : MA} {g : MG} {tt : MT} {te : ME} {σ : L2.St} {H : Hp} {T : VK} {F : List Key → Sg → Res Mv} {Q : VK} (hs : ∀ t ∈ ts, t ∈ vs)
    (h : tG (XV X.K) X.K W (fun ρ S => (mi ρ S).bind fun xs S1 => (scLoop g tt te (wipeM ρ vs) xs [] S1).nox.bind F) σ H Q)
    (k : ∀ D ks ι S H', H' D = some (OM X.w D ks) → (∀ q ∈ ι, q.2 ≠ D) → Rl X.K ι S H' → Post (XV X.K) X.K W ι σ H' Q (F ks S) → T (.ref D) H') :
    tScM X.w (tG (ItM X.K) X.K W mi) (tgM X ts g) (tG RB X.K W0 tt) (tG (XV X.K) X.K W0 te) vs σ H T := by
  obtain ⟨ι, S, ρ, hl, hr, h⟩ := h
  refine ⟨ι, S, ρ, hl, hr, step h fun xs J ι1 H1 S1 s1 r1 hJ h1 => ?_⟩
  intro D hD
  have h2 : okP (scLoop g tt te (wipeM ρ vs) xs [] S1) fun ks S2 => Post (XV X.K) X.K W ι1 σ H1 Q (F ks S2) := by
    cases e : scLoop g tt te (wipeM ρ vs) xs [] S1 with
    | ok x S' => rw [e] at h1; exact h1
    | exc x S' => rw [e] at h1; exact h1
    | bad => rw [e] at h1; exact h1
  clear h1
  obtain ⟨rD, sD⟩ := r1.beside (u := OM X.w D []) hD
  have hl1 : LR X.K ι1 H1 (wipeM ρ vs) (wipe σ vs) := lr_wipe (hl.mono s1) vs
  refine ⟨fun i n H => ∃ ι S ks, Sub ι1 H1 ι H ∧ Rl X.K ι S H ∧ (∀ q ∈ ι, q.2 ≠ D) ∧ H D = some (OM X.w D ks) ∧ n = xs.length - i ∧
      okP (scLoop g tt te (wipeM ρ vs) (xs.drop i) ks S) fun ks S2 => Post (XV X.K) X.K W ι1 σ H1 Q (F ks S2),
    ⟨xs.length, ι1, S1, [], sD, rD, fun q hq z => r1.live q hq (by rw [z]; exact hD), upd_same, rfl, h2⟩, fun i n H hW => ?_⟩
  clear hl hr h s1 r1 h2 rD sD
  obtain ⟨ι, S, ks, s, hr, hq, hp, hn, h⟩ := hW
  cases e : xs.drop i with
  | nil =>
    rw [e] at h
    have : xs.length ≤ i := by
      have := congrArg List.length e
      simp at this; omega
    exact .inl ⟨(hJ ι H S s hr i).2 this, k D ks ι S H hp hq hr (Post.sub s h)⟩
  | cons x r =>
    obtain ⟨e1, e2⟩ := drop_at e
    rw [e] at h
    obtain ⟨go, yl⟩ := (hJ ι H S s hr i).1 x e1
    refine .inr ⟨go, fun H => ∃ ι S ks, Sub ι1 H1 ι H ∧ Rl X.K ι S H ∧ (∀ q ∈ ι, q.2 ≠ D) ∧ H D = some (OM X.w D ks) ∧
      okP (scLoop g tt te (wipeM ρ vs) r ks S) fun ks S2 => Post (XV X.K) X.K W ι1 σ H1 Q (F ks S2), fun H' q => ⟨xs.length - (i + 1), ?_, ?_⟩, fun v H2 hy => ?_⟩
    · have := (List.getElem?_eq_some_iff.mp e1).1
      omega
    · obtain ⟨ι', S', k', a, b, c, d, f⟩ := q
      exact ⟨ι', S', k', a, b, c, d, rfl, by rw [e2]; exact f⟩
    · obtain ⟨r2, s2, hv⟩ := yl v H2 hy
      simp only [scLoop] at h
      cases eg : g S x (wipeM ρ vs) with
      | none => rw [eg] at h; exact h.elim
      | some ρ1 =>
        rw [eg] at h
        simp only at h
        have sA := s.trans s2
        have hl2 := hl1.mono sA
        refine ⟨ι, S, wipeM ρ vs, x, ρ1, hl2, r2, hv, eg, fun σ' l' off => ⟨wipe_off hs off, ι, S, ρ1, l', r2, stepN h fun kk k' ι3 H3 S3 s3 r3 ek h3 => ?_⟩⟩
        cases ek
        have hp3 := s3.keep D _ (s2.keep D _ hp hq) hq
        have off3 : ∀ {ι' : Io} {H' : Hp} {ι'' : Io} {H'' : Hp} {o : HO}, Sub ι' H' ι'' H'' → H' D = some o → (∀ q ∈ ι', q.2 ≠ D) → ∀ q ∈ ι'', q.2 ≠ D := fun s hd hq q hm => by
          obtain ⟨t, rfl, ht⟩ := s.pre
          rcases List.mem_append.mp hm with hm | hm
          · exact hq q hm
          · exact fun z => by rw [← z, ht q hm] at hd; cases hd
        have hq3 := off3 s3 (s2.keep D _ hp hq) hq
        have sB := sA.trans s3
        cases kk with
        | false => exact iteF ⟨ι3, S3, ks, sB, r3, hq3, hp3, by simpa using h3⟩
        | true =>
          rw [if_pos rfl] at h3
          refine iteT ⟨ι3, S3, ρ1, l'.mono s3, r3, stepN h3 fun y v' ι4 H4 S4 s4 r4 hy h4 => ?_⟩
          have hp4 := s4.keep D _ hp3 hq3
          have hq4 := off3 s4 hp3 hq3
          split at h4
          · rename_i key ek
            split at h4
            · rename_i c
              exact ⟨key, ks, keyO_ok hy ek, hp4, c, ι4, S4, addK ks key, (sB.trans s4).again hD hp4, r4.aside hp4 trivial hq4, hq4, upd_same, h4⟩
            · exact h4.elim
          · exact h4.elim
variable {ts vs : List Nat} {elt tg iter : Expr} {ifs : List Expr} {scope : Scope} {own : List (Str × Nat)} {mi : MA} {g : MG} {tt : MT} {te : ME}
theorem pm_sortSc (b : Bi) (hc : X.calm = true) (hu : X.A.units + 70 < cLine) (hgl : Gl X "sorted") (hm : X.mg "sorted" = none) (hN : X.N.Nodup) (hi : PIM X W tg iter mi) (ok : BlkOk X.N X.env.scope scope own)
    (hg : ∀ (s : Shared) (H : Hp) (C : Addr) (cl : List (Str × Addr)) (fp : List Addr), PMG (X.blk s H scope (compEnvC scope cl C X.env) fp) ts tg g) (ht : ∀ (s : Shared) (H : Hp) (C : Addr) (cl : List (Str × Addr)) (fp : List Addr), PTM (X.blk s H scope (compEnvC scope cl C X.env) fp) W0 ifs tt)
    (he : ∀ (s : Shared) (H : Hp) (C : Addr) (cl : List (Str × Addr)) (fp : List Addr), PM (X.blk s H scope (compEnvC scope cl C X.env) fp) W0 elt te) (hs : ∀ t ∈ ts, t ∈ vs) (hv : own.map (·.2) = vs := by rfl) (hf : ∀ x, foldedSetIterable iter X.env x = pure x := by intro _; rfl)
    (he2 : starEach [.SetComp elt [⟨tg, iter, ifs, 0⟩] scope pos2] X.env = (false, eval (.SetComp elt [⟨tg, iter, ifs, 0⟩] scope pos2) X.env) :: starEach [] X.env := by rfl) :
    PM X W (.Call (.Name "sorted" p) [.SetComp elt [⟨tg, iter, ifs, 0⟩] scope pos2] [] pos) (mSortSc b mi g tt te vs) := by
  subst hv
  refine pe_imp (pe_b b (pe_callB (cr_sortedM hc hu) hgl hm (by decide +kernel) (pa_cons (pe_scM (g := tgM X ts g) (tt := tG RB X.K W0 tt) (te := tG (XV X.K) X.K W0 te) hc hN hi ok hg ht he hf) pa_nil he2) (he := he2))) fun σ H Q h => ?_
  show tScM X.w (tG (ItM X.K) X.K W mi) (tgM X ts g) (tG RB X.K W0 tt) (tG (XV X.K) X.K W0 te) (own.map (·.2)) σ H (fun v H1 => rSortedM X.w X.K [v] H1 (Qf b Q))
  refine sc_core (W := W) (Q := Q) (F := fun ks S2 => opt (sortK ks) fun z => bear b z S2) hs h fun D ks ι S H' hp hq hr q => ?_
  unfold opt at q
  split at q
  · rename_i z e
    exact sortK_raw (S := S) hp e (bear_raw hr q)
  · exact q.elim
theorem pm_lenSc (hc : X.calm = true) (hgl : Gl X "len") (hm : X.mg "len" = none) (hN : X.N.Nodup) (hi : PIM X W tg iter mi) (ok : BlkOk X.N X.env.scope scope own)
    (hg : ∀ (s : Shared) (H : Hp) (C : Addr) (cl : List (Str × Addr)) (fp : List Addr), PMG (X.blk s H scope (compEnvC scope cl C X.env) fp) ts tg g) (ht : ∀ (s : Shared) (H : Hp) (C : Addr) (cl : List (Str × Addr)) (fp : List Addr), PTM (X.blk s H scope (compEnvC scope cl C X.env) fp) W0 ifs tt)
    (he : ∀ (s : Shared) (H : Hp) (C : Addr) (cl : List (Str × Addr)) (fp : List Addr), PM (X.blk s H scope (compEnvC scope cl C X.env) fp) W0 elt te) (hs : ∀ t ∈ ts, t ∈ vs) (hv : own.map (·.2) = vs := by rfl) (hf : ∀ x, foldedSetIterable iter X.env x = pure x := by intro _; rfl)
    (he2 : starEach [.SetComp elt [⟨tg, iter, ifs, 0⟩] scope pos2] X.env = (false, eval (.SetComp elt [⟨tg, iter, ifs, 0⟩] scope pos2) X.env) :: starEach [] X.env := by rfl) :
    PM X W (.Call (.Name "len" p) [.SetComp elt [⟨tg, iter, ifs, 0⟩] scope pos2] [] pos) (mLenSc mi g tt te vs) := by
  subst hv
  refine pe_imp (pe_b .ref (pe_callB cr_lenM hgl hm PySem.boot_len (pa_cons (pe_scM (g := tgM X ts g) (tt := tG RB X.K W0 tt) (te := tG (XV X.K) X.K W0 te) hc hN hi ok hg ht he hf) pa_nil he2) (he := he2))) fun σ H Q h => ?_
  show tScM X.w (tG (ItM X.K) X.K W mi) (tgM X ts g) (tG RB X.K W0 tt) (tG (XV X.K) X.K W0 te) (own.map (·.2)) σ H (fun v H1 => rLenM X.w [v] H1 Q)
  refine sc_core (W := W) (Q := Q) (F := fun ks S2 => .ok (.d (.int ks.length)) S2) hs h fun D ks ι S H' hp hq hr q => ?_
  exact ⟨D, ks, rfl, hp, q _ _ _ (Sub.refl _ _) hr (.int _)⟩
end
end MM
end
section
set_option Elab.async false
set_option linter.all false
set_option maxRecDepth 100000
set_option maxHeartbeats 4000000
set_option autoImplicit false
/-! MEnum: enumerate(e) over a list, a tuple, a text of data. -/
namespace MM
open PySem PySem.Spec PyProof.Rows L2

theorem meets_enum1 {v : Value} {o : Obj} {H : Heap → Prop} (B : Begins v o H) :
    Meets (Builtin.«enumerate.__new__» ⟨[.type "enumerate", v], []⟩) (fun _ R s => H s.heap ∧
      R (.ok (.ret (.ref (s.heap.push o).objs.size))) { s with heap := (s.heap.push o).push { cls := .type "enumerate", data := .fields #[.none, .bool false, .ref s.heap.objs.size, rawInt 0, .none, .none] } }) :=
  .of_wp fun prog w A R s h => by
    obtain ⟨hp, g, d, tk, os⟩ := s; obtain ⟨h1, h⟩ := h
    have hsub := sub_enumerate
    have q1 : ∀ {A' : Around} {E : Value → Shared → Prop} {Q : Value → Shared → Prop}, Q (.ref hp.objs.size) ⟨hp.push o, g, d, tk, os⟩ → wpAny (model prog w) A' (pyIter v) Q E ⟨hp, g, d, tk, os⟩ :=
      fun q => B.iter prog w _ _ ⟨hp, g, d, tk, os⟩ _ h1 q
    wp_walk using q1
    refine wpAny_stack_any fun st => wpAny_pure ?_
    split
    · rename_i c _ _ _ _ _
      cases (c == Value.type "enumerate")
      · wp_walk using q1
        exact ⟨_, rfl, h⟩
      · wp_walk using q1
        exact ⟨_, rfl, h⟩
    · wp_walk using q1
      exact ⟨_, rfl, h⟩
theorem call_enum1 {prog : Program} {w : World} {A : Around} {E : Value → Shared → Prop} {s : Shared} {v : Value} {o : Obj} {H : Heap → Prop} {Q : Value → Shared → Prop} (B : Begins v o H) (h1 : H s.heap)
    (h : ∀ h', IsEnum h' (s.heap.objs.size + 1) s.heap.objs.size 0 .none → h'.get? s.heap.objs.size = some o → h'.objs.size = s.heap.objs.size + 2 →
      (∀ b o, s.heap.get? b = some o → h'.get? b = some o) → Q (.ref (s.heap.objs.size + 1)) { s with heap := h' }) :
    wpAny (model prog w) A (call (.type "enumerate") [v]) Q E s := by
  refine callType_new F.called_enumerate (by decide) (F.typeCall_enumerate_1 _) (F.newCall_enumerate_1 _) (fun obj => F.args_object_init_2 obj _) F.entry_enumerate_new
    (meets_enum1 B) ⟨h1, ?_⟩
  have hz : (s.heap.push o).objs.size = s.heap.objs.size + 1 := Heap.size_push ..
  show _ ∧ _
  rw [hz]
  have he : IsEnum ((s.heap.push o).push { cls := .type "enumerate", data := .fields #[.none, .bool false, .ref s.heap.objs.size, rawInt 0, .none, .none] }) (s.heap.objs.size + 1) s.heap.objs.size 0 .none := by
    have := Heap.get?_push_size (s.heap.push o) (o := { cls := .type "enumerate", data := .fields #[.none, .bool false, .ref s.heap.objs.size, rawInt 0, .none, .none] }) rfl
    rw [hz] at this; exact this
  refine ⟨⟨_, he, rfl⟩, h _ he (Heap.get?_push_of_some _ (Heap.get?_push_size _ B.free)) (by rw [Heap.size_push, hz]) fun b o x => Heap.get?_push_of_some _ (Heap.get?_push_of_some _ x)⟩

/-- what is drawn from: by what stands (Ok), n things, the i-th one x, the iterator at it -/
structure Src (P : Program) (w : World) (K : PySem.W.Frag) (it : Addr) (n : Nat) (Ok : Hp → Prop) (Sv : Nat → V → Prop) (S0 : Nat → Heap → Prop) : Prop where
  obj : ∀ i h, S0 i h → ∃ o, h.get? it = some o ∧ ∀ v, o.data ≠ .cell v
  keep : ∀ i h h', S0 i h → (∀ o, h.get? it = some o → h'.get? it = some o) → S0 i h'
  draws : ∀ (X : Cx), X.prog = P → X.w = w → X.K = K → X.calm = true → ∀ (pins : List (Addr × Obj)) (s : Shared) (σ : L2.St) (H : Hp), Inv X pins σ H s → Ok H → ∀ e, H e = none → e ≠ it → H it = none →
    (∃ o, s.heap.get? e = some o ∧ o.cls ≠ .type "list" ∧ o.cls ≠ .type "tuple") → (∃ o, s.heap.get? it = some o ∧ o.cls ≠ .type "list" ∧ o.cls ≠ .type "tuple") →
    ∃ fp Pv St, Draws P w X.A.in1 it fp n Pv St ∧ e ∉ fp ∧ (∀ i, S0 i s.heap → St i s.heap) ∧ (∀ i h, St i h → S0 i h) ∧ ∀ i u, Pv i u → ∃ x, Sv i x ∧ RelV x u
def Itn (n : Nat) (Ok : Hp → Prop) (Sv : Nat → V → Prop) : It :=
  ⟨fun i H => Ok H ∧ i < n, fun i H v H' => ∃ T x, v = .ref T ∧ H T = none ∧ H' = upd H T (.tup [.int (i : Nat), x]) ∧ Sv i x, fun i H => Ok H ∧ n ≤ i⟩
theorem neTy {a b : String} (h : a ≠ b) : Value.type a ≠ .type b := fun z => h (Value.type.inj z)
theorem turn_enumG {P : Program} {w : World} {K : PySem.W.Frag} {elts : List Expr} {kk : Nat} {tpos : Pos} {e it : Addr} {n : Nat} {Ok : Hp → Prop} {Sv : Nat → V → Prop} {S0 : Nat → Heap → Prop} (R : Src P w K it n Ok Sv S0)
    (ht : ∀ i h, S0 i h → ∃ o, h.get? it = some o ∧ o.cls ≠ .type "list" ∧ o.cls ≠ .type "tuple") :
    Turn P w K (.Tuple elts kk tpos) (Itn n Ok Sv) [e, it] e (fun i h => (∃ old, IsEnum h e it ((i : Nat) : Int) old) ∧ S0 i h ∧ e ≠ it ∧ i ≤ n) where
  mem := by simp
  obj := fun i h st b hb => by
    obtain ⟨⟨old, he⟩, hs, _⟩ := st
    have e' : b = e ∨ b = it := by simpa using hb
    rcases e' with z | z
    · rw [z]; exact ⟨_, he, fun v q => nomatch q⟩
    · rw [z]; exact R.obj _ _ hs
  keep := fun i h h' st k => let ⟨⟨old, he⟩, hi, hne, hl⟩ := st; ⟨⟨old, k e (by simp) _ he⟩, R.keep _ _ _ hi fun o q => k it (by simp) o q, hne, hl⟩
  item := by
    intro X hP hw hK hc i pins s σ H E I hf st hg
    obtain ⟨⟨old, he⟩, hit, hne, hl⟩ := st
    obtain ⟨hok, hlt⟩ := hg
    have f0 := (hf e (by simp)).1
    have f1 := (hf it (by simp)).1
    obtain ⟨fp, Pv, St, D, hfp, a1, a2, a3⟩ := R.draws X hP hw hK hc pins s σ H I hok e f0 hne f1 ⟨_, he, neTy (by decide), neTy (by decide)⟩ (ht _ _ hit)
    subst hP hw hK
    have hel : e < s.heap.objs.size := Heap.lt_size he
    have hil : it < s.heap.objs.size := by obtain ⟨_, q, _⟩ := R.obj _ _ hit; exact Heap.lt_size q
    refine wpAny_pyNext_enum_itemC D he (a1 i hit) hlt hne hfp fun u h' tk hP ho hit' hT hsz hk => ?_
    obtain ⟨x, hx, ru⟩ := a3 i u hP
    refine ⟨_, rfl, wpAny_letOwnedTupleGo_enum (s := { s with heap := h', toks := tk + 1 }) ho fun h'' he' sb => ?_⟩
    have hT2 : h''.get? s.heap.objs.size = some { cls := .type "tuple", data := .seq #[.int i tk, u] } := (sb.2 _ (Nat.ne_of_gt hel)).trans hT
    have new : ObjOk X.prog X.w (upd H s.heap.objs.size (.tup [.int (i : Nat), x])) h'' s.heap.objs.size (.tup [.int (i : Nat), x]) :=
      ⟨by show 2 ≤ sizeLine; decide, [.int i tk, u], .cons ⟨_, rfl⟩ (.cons ru .nil), ⟨_, hT2, rfl, _, rfl⟩⟩
    have I1 : Inv X pins σ (upd H s.heap.objs.size (.tup [.int (i : Nat), x])) { s with heap := h'', toks := tk + 1 } :=
      I.turnedNew (ch := [e, it]) (fun b ob hb q => (sb.2 b (fun z => hb (by simp [z]))).trans (hk b ob (fun z => hb (by simp [z])) (fun z => hb (by simp [z])) q)) hf (Nat.le_refl _) new
    refine ⟨.ref s.heap.objs.size, _, I1, rfl, ⟨_, x, rfl, I.hok.fresh (Nat.le_refl _), rfl, hx⟩, ⟨⟨u, ?_⟩, R.keep _ _ _ (a2 _ _ hit') fun o q => (sb.2 it (Ne.symm hne)).trans q, hne, hlt⟩, fun b hb => ?_⟩
    · have e1 : ((i + 1 : Nat) : Int) = (i : Int) + 1 := by omega
      rw [e1]; exact he'
    · have hb' : b < s.heap.objs.size := by
        have e' : b = e ∨ b = it := by simpa using hb
        rcases e' with z | z
        · rw [z]; exact hel
        · rw [z]; exact hil
      rw [upd_ne (Nat.ne_of_lt hb')]
      exact (hf b hb).1
  done := by
    intro X hP hw hK hc i pins s σ H E I hf st hg
    obtain ⟨⟨old, he⟩, hit, hne, hl⟩ := st
    obtain ⟨hok, hge⟩ := hg
    have f0 := (hf e (by simp)).1
    obtain ⟨f0', f1, f2, f3, f4, f5⟩ := hf it (by simp)
    obtain ⟨fp, Pv, St, D, hfp, a1, a2, a3⟩ := R.draws X hP hw hK hc pins s σ H I hok e f0 hne f0' ⟨_, he, neTy (by decide), neTy (by decide)⟩ (ht _ _ hit)
    subst hP hw hK
    have ei : i = n := Nat.le_antisymm hl hge
    subst ei
    exact wpAny_pyNext_enum_endD D he (a1 _ hit) fun h' eb => ⟨rfl, I.turned (t' := s.toks) (fun b o hb q => eb b o hb q) f0' f1 f3 f4 f5⟩
  self := fun A i s Q E st h => let ⟨⟨_, he⟩, _⟩ := st; wpAny_pyIter_enum he h

/-! ### the three -/
theorem src_lst {P : Program} {w : World} {K : PySem.W.Frag} (a it : Addr) (vs : List V) : Src P w K it vs.length (fun H => SqL K H a vs) (fun i x => vs[i]? = some x) (fun i h => h.IsListIter it a i) where
  obj := fun i h st => let ⟨o, e, c, d⟩ := st; ⟨o, e, fun v z => by rw [d] at z; cases z⟩
  keep := fun i h h' st k => st.at fun o q => k o q
  draws := by
    intro X hP hw hK hc pins s σ H I hok e h0 hne h1 ⟨oe, ge, ce, _⟩ ⟨oi, gi, ci, _⟩
    subst hP hw hK
    obtain ⟨its, rv, p, hz⟩ := I.list hok
    have q : s.heap.IsList a its.toArray := p.isList
    have ea : a ≠ e := fun z => by
      obtain ⟨o, e1, e2, _⟩ := q
      rw [z, ge] at e1; cases e1; exact ce e2
    have ia : a ≠ it := fun z => by
      obtain ⟨o, e1, e2, _⟩ := q
      rw [z, gi] at e1; cases e1; exact ci e2
    have D := Draws.list (prog := X.prog) (w := X.w) (A := X.A.in1) (I.ok.hd hc) it a ia its.toArray
    have hn : its.toArray.size = vs.length := by simp [rv.length]
    rw [hn] at D
    refine ⟨_, _, _, D, ?_, fun i h => ⟨h, q⟩, fun i h x => x.1, fun i u hu => ?_⟩
    · intro z
      rcases List.mem_cons.mp z with z | z
      · exact hne z
      · exact ea (List.mem_singleton.mp z).symm
    · have hu' : its[i]? = some u := by simpa using hu
      have : i < vs.length := by rw [rv.length]; exact (List.getElem?_eq_some_iff.mp hu').1
      obtain ⟨u', e1, e2⟩ := rv.get (List.getElem?_eq_getElem this)
      rw [hu'] at e1; cases e1
      exact ⟨_, List.getElem?_eq_getElem this, e2⟩
theorem src_tup {P : Program} {w : World} {K : PySem.W.Frag} (a it : Addr) (vs : List V) : Src P w K it vs.length (fun H => SqT K H a vs) (fun i x => vs[i]? = some x) (fun i h => h.IsTupleIter it a i) where
  obj := fun i h st => let ⟨o, e, c, d⟩ := st; ⟨o, e, fun v z => by rw [d] at z; cases z⟩
  keep := fun i h h' st k => st.at fun o q => k o q
  draws := by
    intro X hP hw hK hc pins s σ H I hok e h0 hne h1 ⟨oe, ge, _, ce⟩ ⟨oi, gi, _, ci⟩
    subst hP hw hK
    obtain ⟨its, rv, p, hz⟩ := I.tuple hok
    have q : s.heap.IsTuple a its.toArray := p
    have ea : a ≠ e := fun z => by
      obtain ⟨o, e1, e2, _⟩ := q
      rw [z, ge] at e1; cases e1; exact ce e2
    have ia : a ≠ it := fun z => by
      obtain ⟨o, e1, e2, _⟩ := q
      rw [z, gi] at e1; cases e1; exact ci e2
    have D := Draws.tuple (prog := X.prog) (w := X.w) (A := X.A.in1) (I.ok.hd hc) it a ia its.toArray
    have hn : its.toArray.size = vs.length := by simp [rv.length]
    rw [hn] at D
    refine ⟨_, _, _, D, ?_, fun i h => ⟨h, q⟩, fun i h x => x.1, fun i u hu => ?_⟩
    · intro z
      rcases List.mem_cons.mp z with z | z
      · exact hne z
      · exact ea (List.mem_singleton.mp z).symm
    · have hu' : its[i]? = some u := by simpa using hu
      have : i < vs.length := by rw [rv.length]; exact (List.getElem?_eq_some_iff.mp hu').1
      obtain ⟨u', e1, e2⟩ := rv.get (List.getElem?_eq_getElem this)
      rw [hu'] at e1; cases e1
      exact ⟨_, List.getElem?_eq_getElem this, e2⟩
theorem src_str {P : Program} {w : World} {K : PySem.W.Frag} (it : Addr) (z : Str) (t : Tok) : Src P w K it z.cps.size (fun _ => True) (fun i x => ∃ c, z.cps[i]? = some c ∧ x = .str ⟨#[c]⟩) (fun i h => h.IsStrIter it (strIterType z) z t i) where
  obj := fun i h st => let ⟨o, e, c, d⟩ := st; ⟨o, e, fun v z => by rw [d] at z; cases z⟩
  keep := fun i h h' st k => let ⟨o, e, r⟩ := st; ⟨o, k o e, r⟩
  draws := by
    intro X hP hw hK hc pins s σ H I hok e h0 hne h1 _ _
    subst hP hw hK
    refine ⟨_, _, _, Draws.text (prog := X.prog) (w := X.w) (A := X.A.in1) (I.ok.hd hc) it z t, ?_, fun i h => h, fun i h x => x, fun i u hu => ?_⟩
    · intro q; exact hne (List.mem_singleton.mp q)
    · obtain ⟨c, t', e1, e2⟩ := hu
      exact ⟨_, ⟨c, e1, rfl⟩, t', e2⟩

/-- what may be walked, and what it draws -/
inductive Feed (K : PySem.W.Frag) (H : Hp) : V → Nat → (Hp → Prop) → (Nat → V → Prop) → Prop
  | lst {a : Addr} {vs : List V} : SqL K H a vs → Feed K H (.ref a) vs.length (fun H => SqL K H a vs) (fun i x => vs[i]? = some x)
  | tup {a : Addr} {vs : List V} : SqT K H a vs → Feed K H (.ref a) vs.length (fun H => SqT K H a vs) (fun i x => vs[i]? = some x)
  | str {z : Str} : Feed K H (.str z) z.cps.size (fun _ => True) (fun i x => ∃ c, z.cps[i]? = some c ∧ x = .str ⟨#[c]⟩)
def iEnumG (K : PySem.W.Frag) (ta : TA) : TI := fun σ H R => ta σ H fun vs H1 => ∃ v n Ok Sv, vs = [v] ∧ Feed K H1 v n Ok Sv ∧ R (Itn n Ok Sv) H1
theorem strIter_cls (z : Str) : (PySem.strIterType z) = "str_ascii_iterator" ∨ (PySem.strIterType z) = "str_iterator" := by
  unfold PySem.strIterType; split
  · exact .inl rfl
  · exact .inr rfl
theorem pi_enumG {X : Cx} {e : Expr} {ta : TA} {p pos tpos : Pos} {elts : List Expr} {kk : Nat} (hg : Gl X "enumerate") (hm : X.mg "enumerate" = none) (ha : PA X [e] ta) (hs : starEach [e] X.env = [(false, eval e X.env)] := by rfl) :
    PI X (.Tuple elts kk tpos) (.Call (.Name "enumerate" p) [e] [] pos) (iEnumG X.K ta) := by
  refine ⟨fun pins s σ H R I h => ?_⟩
  refine Call_ (ld_blt I hg hm boot_enumerate (PyProof.Rows.callWith_type1 (thn (ha.run pos pins s σ H _ I h) fun us s1 ⟨vs, H1, I1, r1, q1⟩ => ?_) hs rfl))
  obtain ⟨v, n, Ok, Sv, ex, fd, q⟩ := q1
  subst ex
  cases r1 with
  | cons r rr =>
    cases rr
    have fp : ∀ b ∈ [s1.heap.objs.size + 1, s1.heap.objs.size], FpOk X pins H1 b := fun b hb => by
      have e' : b = s1.heap.objs.size + 1 ∨ b = s1.heap.objs.size := by simpa using hb
      have hle : s1.heap.objs.size ≤ b := by
        rcases e' with z | z
        · rw [z]; exact Nat.le_add_right _ _
        · rw [z]; exact Nat.le_refl _
      exact I1.fpOk hle (I1.hok.fresh hle)
    cases fd with
    | @lst a ws hq =>
      cases r
      obtain ⟨its, rv, p', hz⟩ := I1.list hq
      refine call_enum1 (begins_list a its.toArray) p'.isList fun h' he hit hsz hk => wpAny_pyIter_enum he ?_
      have I2 : Inv X pins σ H1 { s1 with heap := h' } := I1.kept (t' := s1.toks) hk
      exact ⟨s1.heap.objs.size + 1, [s1.heap.objs.size + 1, s1.heap.objs.size], _, _, H1, rfl, I2, turn_enumG (src_lst a s1.heap.objs.size ws) (fun i h ⟨o, e1, e2, _⟩ => ⟨o, e1, (by rw [e2]; exact neTy (by decide)), (by rw [e2]; exact neTy (by decide))⟩), ⟨⟨.none, he⟩, ⟨_, hit, rfl, rfl⟩, Nat.succ_ne_self _, Nat.zero_le _⟩, fp, q⟩
    | @tup a ws hq =>
      cases r
      obtain ⟨its, rv, p', hz⟩ := I1.tuple hq
      refine call_enum1 (begins_tuple a its.toArray) p' fun h' he hit hsz hk => wpAny_pyIter_enum he ?_
      have I2 : Inv X pins σ H1 { s1 with heap := h' } := I1.kept (t' := s1.toks) hk
      exact ⟨s1.heap.objs.size + 1, [s1.heap.objs.size + 1, s1.heap.objs.size], _, _, H1, rfl, I2, turn_enumG (src_tup a s1.heap.objs.size ws) (fun i h ⟨o, e1, e2, _⟩ => ⟨o, e1, (by rw [e2]; exact neTy (by decide)), (by rw [e2]; exact neTy (by decide))⟩), ⟨⟨.none, he⟩, ⟨_, hit, rfl, rfl⟩, Nat.succ_ne_self _, Nat.zero_le _⟩, fp, q⟩
    | @str z =>
      obtain ⟨t, rfl⟩ := r
      refine call_enum1 (begins_text z t) trivial fun h' he hit hsz hk => wpAny_pyIter_enum he ?_
      have I2 : Inv X pins σ H1 { s1 with heap := h' } := I1.kept (t' := s1.toks) hk
      refine ⟨s1.heap.objs.size + 1, [s1.heap.objs.size + 1, s1.heap.objs.size], _, _, H1, rfl, I2, turn_enumG (src_str s1.heap.objs.size z t) (fun i h ⟨o, e1, e2, _⟩ => ⟨o, e1, ?_, ?_⟩), ⟨⟨.none, he⟩, ⟨_, hit, rfl, rfl⟩, Nat.succ_ne_self _, Nat.zero_le _⟩, fp, q⟩
      · rw [e2]; rcases strIter_cls z with h | h <;> rw [h] <;> exact neTy (by decide)
      · rw [e2]; rcases strIter_cls z with h | h <;> rw [h] <;> exact neTy (by decide)

/-! ### as items of MM -/
def numL (xs : List PyData) : List Mv := xs.zipIdx.map fun p => .d (.tuple [.int (p.2 : Nat), p.1])
theorem numL_at {xs : List PyData} {i : Nat} {x : Mv} (e : (numL xs)[i]? = some x) : ∃ d, xs[i]? = some d ∧ x = .d (.tuple [.int (i : Nat), d]) := by
  unfold numL at e
  rw [List.getElem?_map, List.getElem?_zipIdx] at e
  cases h : xs[i]? with
  | none => rw [h] at e; cases e
  | some d => rw [h] at e; simp at e; exact ⟨d, rfl, e.symm⟩
theorem itm_enum {K : PySem.W.Frag} {ι : Io} {H : Hp} {n : Nat} {Ok : Hp → Prop} {Sv : Nat → V → Prop} {ds : List PyData} (hl : ds.length = n) (hO : ∀ ι1 H1, Sub ι H ι1 H1 → Ok H1)
    (hv : ∀ ι1 H1, Sub ι H ι1 H1 → ∀ i d v, ds[i]? = some d → Sv i v → FD K H1 d v) : ItM K ι H (numL ds) (Itn n Ok Sv) := by
  intro ι1 H1 S1 s r i
  have hz : (numL ds).length = n := by simp [numL, hl]
  refine ⟨fun x e => ?_, fun e => ⟨hO _ _ s, by rw [← hz]; exact e⟩⟩
  obtain ⟨d, e1, rfl⟩ := numL_at e
  have hi : i < n := by rw [← hl]; exact (List.getElem?_eq_some_iff.mp e1).1
  refine ⟨⟨hO _ _ s, hi⟩, fun v' H2 ⟨T, x, e2, e3, e4, e5⟩ => ?_⟩
  subst e2 e4
  obtain ⟨r2, s2⟩ := r.beside (u := .tup [.int (i : Nat), x]) e3
  refine ⟨r2, s2, ?_⟩
  have q : SqT K (upd H1 T (.tup [.int (i : Nat), x])) T [.int (i : Nat), x] := .inl (.inl (by rw [upd_same]))
  exact FD.tup q (.cons (.int _) (.cons (FD.mono s2.grow (hv _ _ s _ _ _ e1 e5)) .nil))
theorem FDs.on {K : PySem.W.Frag} {H : Hp} {d : PyData} {v : V} : ∀ {ds : List PyData} {vs : List V} {i : Nat}, FDs K H ds vs → ds[i]? = some d → vs[i]? = some v → FD K H d v
  | _, _, _, .nil, e, _ => nomatch e
  | _, _, 0, .cons h _, e, e2 => by cases e; cases e2; exact h
  | _, _, i + 1, .cons _ hs, e, e2 => FDs.on hs e e2
theorem FDs.lenE {K : PySem.W.Frag} {H : Hp} : ∀ {ds : List PyData} {vs : List V}, FDs K H ds vs → ds.length = vs.length
  | _, _, .nil => rfl
  | _, _, .cons _ hs => congrArg (· + 1) (FDs.lenE hs)
def Mv.itemsD (x : Mv) : Option (List PyData) := match x with
  | .d (.list xs) => some xs
  | .d (.tuple xs) => some xs
  | .d (.str z) => some (z.cps.toList.map fun c => .str ⟨#[c]⟩)
  | _ => none
theorem feed_of {K : PySem.W.Frag} {ι : Io} {H : Hp} {x : Mv} {v : V} {ds : List PyData} (e : x.itemsD = some ds) (h : XV K ι H x v) : ∃ n Ok Sv, Feed K H v n Ok Sv ∧ ItM K ι H (numL ds) (Itn n Ok Sv) := by
  cases x with
  | d y =>
    cases y with
    | list xs =>
      cases e
      cases (show FD K H _ v from h) with
      | lst hf hs => exact ⟨_, _, _, .lst hf.sq, itm_enum hs.lenE (fun ι1 H1 s => (hf.mono s.grow).sq) fun ι1 H1 s i d v e1 e2 => FDs.on (FDs.mono s.grow hs) e1 e2⟩
    | tuple xs =>
      cases e
      cases (show FD K H _ v from h) with
      | tup hf hs => exact ⟨_, _, _, .tup hf, itm_enum hs.lenE (fun ι1 H1 s => SqT_mono s.grow hf) fun ι1 H1 s i d v e1 e2 => FDs.on (FDs.mono s.grow hs) e1 e2⟩
    | str z =>
      cases e
      cases (show FD K H _ v from h) with
      | str z =>
        refine ⟨_, _, _, .str, itm_enum (by simp) (fun _ _ _ => trivial) fun ι1 H1 s i d v e1 ⟨c, e2, e3⟩ => ?_⟩
        subst e3
        rw [List.getElem?_map, Array.getElem?_toList, e2] at e1
        cases e1
        exact .str _
    | _ => cases e
  | _ => cases e
def mEnum (a : MA) : MA := fun ρ S => (a ρ S).bind fun xs S1 => match xs with
  | [x] => (match x.itemsD with | some ds => .ok (numL ds) S1 | none => .bad)
  | _ => .bad
section
variable {X : Cx} {W : WX} {pos : Pos}
theorem pim_enum {elts : List Expr} {kk : Nat} {tpos : Pos} {a : Expr} {ma : MA} {p : Pos} (hg : Gl X "enumerate") (hm : X.mg "enumerate" = none) (ha : PL X W [a] ma) (hs : starEach [a] X.env = [(false, eval a X.env)] := by rfl) :
    PIM X W (.Tuple elts kk tpos) (.Call (.Name "enumerate" p) [a] [] pos) (mEnum ma) := by
  refine pi_imp (pi_enumG hg hm ha hs) fun σ H R ⟨ι, S, ρ, hl, hr, h⟩ => ⟨ι, S, ρ, hl, hr, step h fun xs vs ι1 H1 S1 s1 r1 hx h1 => ?_⟩
  cases hx with
  | nil => exact h1.elim
  | @cons x v xs vs r t =>
    cases t with
    | cons r2 t2 => exact h1.elim
    | nil =>
      simp only at h1
      cases e : x.itemsD with
      | none => rw [e] at h1; exact h1.elim
      | some ds =>
        rw [e] at h1
        obtain ⟨n, Ok, Sv, f, q⟩ := feed_of e r
        exact ⟨_, _, _, _, rfl, f, h1 _ _ _ (Sub.refl _ _) r1 q⟩
end
end MM
end
section
set_option Elab.async false
set_option linter.all false
set_option maxRecDepth 100000
set_option maxHeartbeats 4000000
set_option autoImplicit false
/-! MMisc: int(x). -/
namespace MM
open PySem PySem.Spec PyProof.Rows L2
section
variable {X : Cx}
def gInt : Sg → List Mv → Option Nw := fun _ xs => match xs with
  | [.d (.int i)] => some (.val (.d (.int i)))
  | [.d (.bool k)] => some (.val (.d (.int (if k then 1 else 0))))
  | [.d (.str a)] => match PySem.intText? a with
    | some n => if a.length ≤ 640 then some (.val (.d (.int n))) else none
    | none => none
  | _ => none
theorem c_int : CallP X (.type "int") gInt := by
  refine CallR.imp (CallR.or2 call_int1 call_int_str) fun vs H Q ⟨ι, S, xs, z, hr, hx, e, q⟩ => ?_
  unfold gInt at e
  split at e
  · obtain ⟨v, rfl, h⟩ := one_of hx
    cases (show FD _ _ _ _ from h)
    cases e
    exact .inl (.inl ⟨_, rfl, q _ (.int _)⟩)
  · obtain ⟨v, rfl, h⟩ := one_of hx
    cases (show FD _ _ _ _ from h)
    cases e
    exact .inl (.inr ⟨_, rfl, q _ (.int _)⟩)
  · split at e
    · rename_i n e1
      split at e
      · rename_i c
        obtain ⟨v, rfl, h⟩ := one_of hx
        cases (show FD _ _ _ _ from h)
        cases e
        exact .inr ⟨_, _, rfl, e1, c, q _ (.int _)⟩
      · cases e
    · cases e
  · cases e
theorem units70 {k : Nat} {A : Around} (r : Room k A) : A.units + 70 < cLine := by have := r.un; omega
end
end MM
end
section
set_option Elab.async false
set_option linter.all false
set_option maxRecDepth 100000
set_option maxHeartbeats 4000000
set_option autoImplicit false
namespace MM.Q
open PySem PySem.Spec PyProof.Rows L2 MM

/-! ### how a mirror is reckoned: every rule is an equation whose right side holds what comes next unapplied -/
section
variable {α β : Type} {ρ : Rho} {S S' : Sg}
theorem bind_ok {x : α} {f : α → Sg → Res β} : (Res.ok x S).bind f = f x S := rfl
theorem bind_exc {e : Ex} {f : α → Sg → Res β} : (Res.exc e S : Res α).bind f = .exc e S := rfl
theorem go_ok {x : α} {f : α → Sg → RS} : (Res.ok x S).go ρ f = f x S := rfl
theorem go_exc {e : Ex} {f : α → Sg → RS} : (Res.exc e S : Res α).go ρ f = .exc e ρ S := rfl
theorem nox_ok {x : α} : (Res.ok x S).nox = .ok x S := rfl
def vr (o : Option (Option Mv)) (S : Sg) : Res Mv := match o with | some (some x) => .ok x S | _ => .bad
theorem vr_some {x : Mv} : vr (some (some x)) S = .ok x S := rfl
theorem ev_var {i : Nat} : mVar i ρ S = vr ρ[i]? S := rfl
theorem ev_c {d : PyData} : mC d ρ S = .ok (.d d) S := rfl
theorem ev_k {x : Mv} : mK x ρ S = .ok x S := rfl
/-! births -/
def frzO (o : Option (List PyData)) (S : Sg) : Res Mv := match o with | some ds => .ok (.d (.list ds)) S | none => .bad
def tupO (o : Option (List PyData)) (xs : List Mv) (S : Sg) : Res Mv := match o with | some ds => .ok (.d (.tuple ds)) S | none => .ok (.ref S.length) (S ++ [(false, .tup xs)])
theorem frzO_some {ds : List PyData} : frzO (some ds) S = .ok (.d (.list ds)) S := rfl
theorem tupO_some {ds : List PyData} {xs : List Mv} : tupO (some ds) xs S = .ok (.d (.tuple ds)) S := rfl
theorem tupO_none {xs : List Mv} : tupO none xs S = .ok (.ref S.length) (S ++ [(false, .tup xs)]) := rfl
theorem bear_val {b : Bi} {z : Mv} : bear b (.val z) S = .ok z S := rfl
theorem bear_frz {xs : List Mv} : bear .frz (.lst xs) S = frzO (allD xs) S := rfl
theorem bear_ref {xs : List Mv} : bear .ref (.lst xs) S = .ok (.ref S.length) (S ++ [(false, .lst xs)]) := rfl
theorem bear_own {xs : List Mv} : bear .own (.lst xs) S = .ok (.own S.length) (S ++ [(true, .lst xs)]) := rfl
theorem bear_tup {b : Bi} {xs : List Mv} : bear b (.tup xs) S = tupO (allD xs) xs S := rfl
theorem allD_nil : allD [] = some [] := rfl
theorem allD_cons {x : PyData} {r : List Mv} : allD (.d x :: r) = (allD r).map (x :: ·) := rfl
theorem allD_map (ds : List PyData) : allD (ds.map .d) = some ds := by
  induction ds with
  | nil => rfl
  | cons x r ih => rw [List.map_cons, allD_cons, ih]; rfl
def bearO (b : Bi) (o : Option Nw) (S : Sg) : Res Mv := opt o fun z => bear b z S
theorem bearO_some {b : Bi} {z : Nw} : bearO b (some z) S = bear b z S := rfl
/-! operators -/
def k2Bin (b : Bi) (g : Sg → Mv → Mv → Option Nw) (x : Mv) : Mv → Sg → Res Mv := fun y S => bearO b (g S x y) S
def k1Bin (b : Bi) (g : Sg → Mv → Mv → Option Nw) (c : ME) (ρ : Rho) : Mv → Sg → Res Mv := fun x S => (c ρ S).bind (k2Bin b g x)
theorem ev_bin {b : Bi} {g : Sg → Mv → Mv → Option Nw} {a c : ME} : mBin b g a c ρ S = (a ρ S).bind (k1Bin b g c ρ) := rfl
theorem ev_bin1 {b : Bi} {g : Sg → Mv → Mv → Option Nw} {c : ME} {x : Mv} : k1Bin b g c ρ x S = (c ρ S).bind (k2Bin b g x) := rfl
theorem ev_bin2 {b : Bi} {g : Sg → Mv → Mv → Option Nw} {x y : Mv} : k2Bin b g x y S = bearO b (g S x y) S := rfl
theorem add_int {i j : Int} : gAdd S (.d (.int i)) (.d (.int j)) = some (.val (.d (.int (i + j)))) := rfl
theorem add_str {a b : Str} (h : a.length + b.length ≤ sizeLine) : gAdd S (.d (.str a)) (.d (.str b)) = some (.val (.d (.str (a ++ b)))) := if_pos h
theorem sub_int {i j : Int} : gSub S (.d (.int i)) (.d (.int j)) = some (.val (.d (.int (i - j)))) := rfl
theorem mul_int {i j : Int} (h : (-(2 ^ 64) < i ∧ i < 2 ^ 64) ∨ (-(2 ^ 64) < j ∧ j < 2 ^ 64)) : gMul S (.d (.int i)) (.d (.int j)) = some (.val (.d (.int (i * j)))) := if_pos h
theorem mul_str {z : Str} {n : Int} (h : -(2 ^ 63) ≤ n ∧ n < 2 ^ 63 ∧ z.length * n.toNat ≤ sizeLine) : gMul S (.d (.str z)) (.d (.int n)) = some (.val (.d (.str (strRep z n.toNat)))) := if_pos h
theorem mod_int {i j : Int} (h : 0 < j) : gMod S (.d (.int i)) (.d (.int j)) = some (.val (.d (.int (i % j)))) := if_pos h
theorem fdiv_int {i j : Int} (h : 0 < j ∧ j < 2 ^ 64) : gFdiv S (.d (.int i)) (.d (.int j)) = some (.val (.d (.int (i / j)))) := if_pos h
theorem pow_int {i j : Int} (h : 0 ≤ j ∧ j ≤ 1000000 ∧ i.natAbs < 2 ^ 64) : gPow S (.d (.int i)) (.d (.int j)) = some (.val (.d (.int (i ^ j.toNat)))) := if_pos h
theorem intB_int {f : Int → Int → Bool} {i j : Int} : gIntB f S (.d (.int i)) (.d (.int j)) = some (.val (.d (.bool (f i j)))) := rfl
def datO (o : Option (Bool × List Mv)) : Option PyData := match o with
  | some (false, xs) => (allD xs).map .list
  | some (true, xs) => (allD xs).map .tuple
  | none => none
theorem datO_f {xs : List Mv} : datO (some (false, xs)) = (allD xs).map .list := rfl
theorem datO_t {xs : List Mv} : datO (some (true, xs)) = (allD xs).map .tuple := rfl
theorem data_d {x : PyData} : Mv.data S (.d x) = some x := rfl
theorem data_ref {i : Nat} : Mv.data S (.ref i) = datO (Mv.seq S (.ref i)) := by
  show (match Mv.seq S (.ref i) with | some (false, xs) => (allD xs).map PyData.list | some (true, xs) => (allD xs).map PyData.tuple | none => none) = _
  cases Mv.seq S (.ref i) with
  | none => rfl
  | some p => obtain ⟨t, xs⟩ := p; cases t <;> rfl
theorem data_own {i : Nat} : Mv.data S (.own i) = datO (Mv.seq S (.own i)) := by
  show (match Mv.seq S (.own i) with | some (false, xs) => (allD xs).map PyData.list | some (true, xs) => (allD xs).map PyData.tuple | none => none) = _
  cases Mv.seq S (.own i) with
  | none => rfl
  | some p => obtain ⟨t, xs⟩ := p; cases t <;> rfl
def eqC (neg : Bool) (d e : PyData) : Option Nw := if SeqAt.shaped d = true ∧ SeqAt.shaped e = true then some (.val (.d (.bool (if neg then !PyData.eqv d e else PyData.eqv d e)))) else none
def eqO (neg : Bool) (o p : Option PyData) : Option Nw := match o, p with | some d, some e => eqC neg d e | _, _ => none
theorem ev_eq_r {neg : Bool} {i : Nat} {y : Mv} : gEqN neg S (.ref i) y = eqO neg (Mv.data S (.ref i)) (y.data S) := rfl
theorem ev_eq_o {neg : Bool} {i : Nat} {y : Mv} : gEqN neg S (.own i) y = eqO neg (Mv.data S (.own i)) (y.data S) := rfl
theorem ev_eq_l {neg : Bool} {i : List PyData} {y : Mv} : gEqN neg S (.d (.list i)) y = eqO neg (some (.list i)) (y.data S) := rfl
theorem ev_eq_t {neg : Bool} {i : List PyData} {y : Mv} : gEqN neg S (.d (.tuple i)) y = eqO neg (some (.tuple i)) (y.data S) := rfl
theorem ev_eq_i {neg : Bool} {i : Int} {y : Mv} : gEqN neg S (.d (.int i)) y = eqO neg (some (.int i)) (y.data S) := rfl
theorem ev_eq_b {neg : Bool} {i : Bool} {y : Mv} : gEqN neg S (.d (.bool i)) y = eqO neg (some (.bool i)) (y.data S) := rfl
theorem ev_eq_n {neg : Bool} {y : Mv} : gEqN neg S (.d .none) y = eqO neg (some .none) (y.data S) := rfl
theorem ev_eq_st {i j : Str} : gEqN true S (.d (.str i)) (.d (.str j)) = some (.val (.d (.bool (!decide (i = j))))) := rfl
theorem ev_eq_sf {i j : Str} : gEqN false S (.d (.str i)) (.d (.str j)) = some (.val (.d (.bool (decide (i = j))))) := rfl
theorem eqO_some {neg : Bool} {d e : PyData} : eqO neg (some d) (some e) = eqC neg d e := rfl
theorem eqC_t {d e : PyData} (s1 : SeqAt.shaped d = true) (s2 : SeqAt.shaped e = true) : eqC true d e = some (.val (.d (.bool (!PyData.eqv d e)))) := if_pos ⟨s1, s2⟩
theorem eqC_f {d e : PyData} (s1 : SeqAt.shaped d = true) (s2 : SeqAt.shaped e = true) : eqC false d e = some (.val (.d (.bool (PyData.eqv d e)))) := if_pos ⟨s1, s2⟩
theorem shaped_int {i : Int} : SeqAt.shaped (.int i) = true := by simp [SeqAt.shaped, PyData.canLay0, PyData.depth]
theorem shaped_bool {i : Bool} : SeqAt.shaped (.bool i) = true := by simp [SeqAt.shaped, PyData.canLay0, PyData.depth]
theorem shaped_none : SeqAt.shaped .none = true := by simp [SeqAt.shaped, PyData.canLay0, PyData.depth]
theorem shaped_str {z : Str} : SeqAt.shaped (.str z) = PyData.strOk z := by simp [SeqAt.shaped, PyData.canLay0, PyData.depth]
theorem shaped_nil : SeqAt.shaped (.list []) = true := by simp [SeqAt.shaped, PyData.canLay0, PyData.canLayAll0, PyData.depth, PyData.depthAll]
theorem flat_depth {xs : List PyData} (h : ∀ x ∈ xs, x.depth = 0) : PyData.depthAll xs = 0 := by
  induction xs with
  | nil => rfl
  | cons x r ih => simp only [PyData.depthAll]; rw [h x (List.mem_cons_self ..), ih fun y hy => h y (List.mem_cons_of_mem _ hy)]; rfl
theorem flat_lay {xs : List PyData} (h : ∀ x ∈ xs, x.canLay0 = true) : PyData.canLayAll0 xs = true := by
  induction xs with
  | nil => rfl
  | cons x r ih => simp only [PyData.canLayAll0]; rw [h x (List.mem_cons_self ..), ih fun y hy => h y (List.mem_cons_of_mem _ hy)]; rfl
theorem shaped_flat {xs : List PyData} (h : ∀ x ∈ xs, x.canLay0 = true ∧ x.depth = 0) : SeqAt.shaped (.list xs) = true ∧ SeqAt.shaped (.tuple xs) = true := by
  have h1 := flat_lay fun x hx => (h x hx).1
  have h2 := flat_depth fun x hx => (h x hx).2
  simp [SeqAt.shaped, PyData.canLay0, PyData.depth, h1, h2]
theorem shaped_ints {xs : List Int} : SeqAt.shaped (.list (xs.map .int)) = true := (shaped_flat fun x hx => by
  obtain ⟨n, _, rfl⟩ := List.mem_map.mp hx
  simp [PyData.canLay0, PyData.depth]).1
theorem eqv_nil {xs : List PyData} : PyData.eqv (.list xs) (.list []) = xs.isEmpty := by cases xs <;> simp [PyData.eqv, PyData.eqvAll]
theorem eqv_int {i j : Int} : PyData.eqv (.int i) (.int j) = (i == j) := by simp [PyData.eqv]
theorem eqv_str {i j : Str} : PyData.eqv (.str i) (.str j) = (i == j) := by simp [PyData.eqv]
theorem eqv_bool {i j : Bool} : PyData.eqv (.bool i) (.bool j) = (i == j) := by simp [PyData.eqv]
theorem in_str {i j : Str} : gInN false S (.d (.str i)) (.d (.str j)) = some (.val (.d (.bool (inStr i j)))) := rfl
theorem notIn_str {i j : Str} : gInN true S (.d (.str i)) (.d (.str j)) = some (.val (.d (.bool (!inStr i j)))) := rfl
theorem is_bool {a b : Bool} : gIsN false S (.d (.bool a)) (.d (.bool b)) = some (.val (.d (.bool (decide (a = b))))) := rfl
theorem isnot_bool {a b : Bool} : gIsN true S (.d (.bool a)) (.d (.bool b)) = some (.val (.d (.bool (!decide (a = b))))) := rfl
/-! truth -/
def tstO (x : Mv) (S : Sg) : Res Bool := match x with | .d (.bool b) => .ok b S | _ => .bad
theorem tst_bool {b : Bool} : tstO (.d (.bool b)) S = .ok b S := rfl
theorem ev_tst {m : ME} : mTst m ρ S = (m ρ S).bind tstO := rfl
def truO (o : Option Bool) (S : Sg) : Res Bool := match o with | some k => .ok k S | none => .bad
def kTru : Mv → Sg → Res Bool := fun x S => truO (x.truth S) S
theorem ev_truth {m : ME} : mTruth m ρ S = (m ρ S).bind kTru := rfl
theorem ev_tru {x : Mv} : kTru x S = truO (x.truth S) S := rfl
theorem truO_some {k : Bool} : truO (some k) S = .ok k S := rfl
theorem truth_bool {b : Bool} : Mv.truth S (.d (.bool b)) = some b := rfl
theorem truth_int {i : Int} : Mv.truth S (.d (.int i)) = some (i != 0) := rfl
theorem truth_none : Mv.truth S (.d .none) = some false := rfl
theorem truth_list {xs : List PyData} : Mv.truth S (.d (.list xs)) = some (!xs.isEmpty) := rfl
theorem truth_tup {xs : List PyData} : Mv.truth S (.d (.tuple xs)) = some (!xs.isEmpty) := rfl
def kAndB (b : MT) (ρ : Rho) : Bool → Sg → Res Bool := fun k S => if k = true then b ρ S else .ok false S
def kOrB (b : MT) (ρ : Rho) : Bool → Sg → Res Bool := fun k S => if k = true then .ok true S else b ρ S
def kNotB : Bool → Sg → Res Bool := fun k S => .ok (!k) S
theorem ev_andB {a b : MT} : mAndB a b ρ S = (a ρ S).bind (kAndB b ρ) := rfl
theorem ev_orB {a b : MT} : mOrB a b ρ S = (a ρ S).bind (kOrB b ρ) := rfl
theorem ev_notB {a : MT} : mNotB a ρ S = (a ρ S).bind kNotB := rfl
theorem andB_t {b : MT} : kAndB b ρ true S = b ρ S := rfl
theorem andB_f {b : MT} : kAndB b ρ false S = .ok false S := rfl
theorem orB_t {b : MT} : kOrB b ρ true S = .ok true S := rfl
theorem orB_f {b : MT} : kOrB b ρ false S = b ρ S := rfl
theorem ev_notB1 {k : Bool} : kNotB k S = .ok (!k) S := rfl
def kAnd (b : ME) (ρ : Rho) : Mv → Sg → Res Mv := fun x S => match x.truth S with | some true => b ρ S | some false => .ok x S | none => .bad
def kOr (b : ME) (ρ : Rho) : Mv → Sg → Res Mv := fun x S => match x.truth S with | some false => b ρ S | some true => .ok x S | none => .bad
theorem ev_and {a b : ME} : mAnd a b ρ S = (a ρ S).bind (kAnd b ρ) := rfl
theorem ev_or {a b : ME} : mOr a b ρ S = (a ρ S).bind (kOr b ρ) := rfl
theorem and_t {b : ME} {x : Mv} (h : x.truth S = some true) : kAnd b ρ x S = b ρ S := by unfold kAnd; rw [h]
theorem and_f {b : ME} {x : Mv} (h : x.truth S = some false) : kAnd b ρ x S = .ok x S := by unfold kAnd; rw [h]
theorem or_t {b : ME} {x : Mv} (h : x.truth S = some true) : kOr b ρ x S = .ok x S := by unfold kOr; rw [h]
theorem or_f {b : ME} {x : Mv} (h : x.truth S = some false) : kOr b ρ x S = b ρ S := by unfold kOr; rw [h]
theorem and_tB {b : ME} : kAnd b ρ (.d (.bool true)) S = b ρ S := rfl
theorem and_fB {b : ME} : kAnd b ρ (.d (.bool false)) S = .ok (.d (.bool false)) S := rfl
theorem or_tB {b : ME} : kOr b ρ (.d (.bool true)) S = .ok (.d (.bool true)) S := rfl
theorem or_fB {b : ME} : kOr b ρ (.d (.bool false)) S = b ρ S := rfl
def notO (o : Option Bool) (S : Sg) : Res Mv := match o with | some k => .ok (.d (.bool (!k))) S | none => .bad
def kNot : Mv → Sg → Res Mv := fun x S => notO (x.truth S) S
theorem ev_not {a : ME} : mNot a ρ S = (a ρ S).bind kNot := by
  unfold mNot
  congr 1
theorem ev_not1 {x : Mv} : kNot x S = notO (x.truth S) S := rfl
theorem notO_some {k : Bool} : notO (some k) S = .ok (.d (.bool (!k))) S := rfl
def kIfE (a b : ME) (ρ : Rho) : Bool → Sg → Res Mv := fun k S => if k = true then a ρ S else b ρ S
theorem ev_ifE {c : MT} {a b : ME} : mIf c a b ρ S = (c ρ S).bind (kIfE a b ρ) := rfl
theorem ifE_t {a b : ME} : kIfE a b ρ true S = a ρ S := rfl
theorem ifE_f {a b : ME} : kIfE a b ρ false S = b ρ S := rfl
/-! arguments, displays -/
def k2Cons (x : Mv) : List Mv → Sg → Res (List Mv) := fun xs S => .ok (x :: xs) S
def k1Cons (r : MA) (ρ : Rho) : Mv → Sg → Res (List Mv) := fun x S => (r ρ S).bind (k2Cons x)
theorem ev_nil : mNil ρ S = .ok [] S := rfl
theorem ev_cons {a : ME} {r : MA} : mCons a r ρ S = (a ρ S).bind (k1Cons r ρ) := rfl
theorem ev_cons1 {r : MA} {x : Mv} : k1Cons r ρ x S = (r ρ S).bind (k2Cons x) := rfl
theorem ev_cons2 {x : Mv} {xs : List Mv} : k2Cons x xs S = .ok (x :: xs) S := rfl
def kDisp (b : Bi) (tup : Bool) : List Mv → Sg → Res Mv := fun xs S => if frees xs = true ∧ xs.length ≤ sizeLine then bear b (if tup = true then .tup xs else .lst xs) S else .bad
theorem ev_disp {b : Bi} {tup : Bool} {a : MA} : mDisp b tup a ρ S = (a ρ S).bind (kDisp b tup) := rfl
theorem disp_lst {b : Bi} {xs : List Mv} (h : frees xs = true) (h2 : xs.length ≤ sizeLine) : kDisp b false xs S = bear b (.lst xs) S := if_pos ⟨h, h2⟩
theorem disp_tup {b : Bi} {xs : List Mv} (h : frees xs = true) (h2 : xs.length ≤ sizeLine) : kDisp b true xs S = bear b (.tup xs) S := if_pos ⟨h, h2⟩
theorem frees_nil : frees [] = true := rfl
theorem frees_cons {x : Mv} {xs : List Mv} : frees (x :: xs) = (x.free && frees xs) := rfl
theorem free_d {x : PyData} : Mv.free (.d x) = true := rfl
theorem free_ref {i : Nat} : Mv.free (.ref i) = true := rfl
theorem free_adr {i : Addr} : Mv.free (.adr i) = true := rfl
/-- whole numbers as values -/
def dI (xs : List Int) : List Mv := (xs.map PyData.int).map .d
theorem dI_snoc {xs : List Int} {x : Int} : dI (xs ++ [x]) = dI xs ++ [.d (.int x)] := by simp [dI]
theorem dI_len {xs : List Int} : (dI xs).length = xs.length := by simp [dI]
theorem allD_dI {xs : List Int} : allD (dI xs) = some (xs.map .int) := allD_map _
theorem dI_nil : dI [] = [] := rfl
theorem allD_dIs {xs : List Int} {x : Int} : allD (dI xs ++ [.d (.int x)]) = some ((xs ++ [x]).map .int) := by rw [← dI_snoc, allD_dI]
theorem frees_map (ds : List PyData) : frees (ds.map .d) = true := by
  induction ds with
  | nil => rfl
  | cons x r ih => rw [List.map_cons, frees_cons, ih]; rfl
/-! calls -/
def kCB (b : Bi) (g : Sg → List Mv → Option Nw) : List Mv → Sg → Res Mv := fun xs S => bearO b (g S xs) S
theorem ev_cb {b : Bi} {g : Sg → List Mv → Option Nw} {a : MA} : mCB b g a ρ S = (a ρ S).bind (kCB b g) := rfl
theorem ev_cb1 {b : Bi} {g : Sg → List Mv → Option Nw} {xs : List Mv} : kCB b g xs S = bearO b (g S xs) S := rfl
def kCall (n : Nat) (f : List Mv → Sg → Res Mv) (ds : List Mv) : List Mv → Sg → Res Mv := fun xs S => if frees xs = true ∧ (xs ++ ds).length = n then f (xs ++ ds) S else .bad
theorem ev_call {n : Nat} {f : List Mv → Sg → Res Mv} {ds : List Mv} {a : MA} : mCall n f ds a ρ S = (a ρ S).bind (kCall n f ds) := rfl
theorem ev_call1 {n : Nat} {f : List Mv → Sg → Res Mv} {ds xs : List Mv} (h : frees xs = true) (h2 : (xs ++ ds).length = n) : kCall n f ds xs S = f (xs ++ ds) S := if_pos ⟨h, h2⟩
theorem ev_call0 {f : List Mv → Sg → Res Mv} : mCall0 f ρ S = f [] S := rfl
def lddO (n : Nat) (f : List Mv → Sg → Res Mv) (o : Option (List Mv)) (S : Sg) : Res Mv := match o with
  | some zs => if frees zs = true ∧ zs.length = n then f zs S else .bad
  | none => .bad
def k2CallK (n : Nat) (f : List Mv → Sg → Res Mv) (os : List Sr) (ds xs : List Mv) : List Mv → Sg → Res Mv := fun ys S => lddO n f (laid xs ys ds os) S
def k1CallK (n : Nat) (f : List Mv → Sg → Res Mv) (os : List Sr) (ds : List Mv) (k : MA) (ρ : Rho) : List Mv → Sg → Res Mv := fun xs S => (k ρ S).bind (k2CallK n f os ds xs)
theorem ev_callK {n : Nat} {f : List Mv → Sg → Res Mv} {os : List Sr} {ds : List Mv} {a k : MA} : mCallK n f os ds a k ρ S = (a ρ S).bind (k1CallK n f os ds k ρ) := by
  unfold mCallK
  congr 1
theorem ev_callK1 {n : Nat} {f : List Mv → Sg → Res Mv} {os : List Sr} {ds xs : List Mv} {k : MA} : k1CallK n f os ds k ρ xs S = (k ρ S).bind (k2CallK n f os ds xs) := rfl
theorem ev_callK2 {n : Nat} {f : List Mv → Sg → Res Mv} {os : List Sr} {ds xs ys : List Mv} : k2CallK n f os ds xs ys S = lddO n f (laid xs ys ds os) S := rfl
theorem ldd_some {n : Nat} {f : List Mv → Sg → Res Mv} {zs : List Mv} (h : frees zs = true) (h2 : zs.length = n) : lddO n f (some zs) S = f zs S := if_pos ⟨h, h2⟩
theorem laid_nil {us ws ds : List Mv} : laid us ws ds [] = some [] := rfl
theorem laid_k {us ws ds : List Mv} {i : Nat} {r : List Sr} : laid us ws ds (.k i :: r) = (ws[i]?).bind fun x => (laid us ws ds r).map (x :: ·) := rfl
theorem laid_p {us ws ds : List Mv} {i : Nat} {r : List Sr} : laid us ws ds (.p i :: r) = (us[i]?).bind fun x => (laid us ws ds r).map (x :: ·) := rfl
theorem laid_v {us ws ds : List Mv} {i : Nat} {r : List Sr} : laid us ws ds (.v i :: r) = (ds[i]?).bind fun x => (laid us ws ds r).map (x :: ·) := rfl
/-! subscripts, slices -/
def ixO (o : Option Mv) (S : Sg) : Res Mv := match o with | some z => .ok z S | none => .bad
theorem ixO_some {z : Mv} : ixO (some z) S = .ok z S := rfl
def k2Ix (x : Mv) : Mv → Sg → Res Mv := fun y S => ixO (gIx S x y) S
def k1Ix (b : ME) (ρ : Rho) : Mv → Sg → Res Mv := fun x S => (b ρ S).bind (k2Ix x)
theorem ev_ix {a b : ME} : mIx a b ρ S = (a ρ S).bind (k1Ix b ρ) := rfl
theorem ev_ix1 {b : ME} {x : Mv} : k1Ix b ρ x S = (b ρ S).bind (k2Ix x) := rfl
theorem ev_ix2 {x y : Mv} : k2Ix x y S = ixO (gIx S x y) S := rfl
theorem ix_str {z : Str} {i : Int} (h : z.length ≤ sizeLine) : gIx S (.d (.str z)) (.d (.int i)) = (atI z.cps.toList i).map fun c => .d (.str ⟨#[c]⟩) := if_pos h
theorem ix_list {xs : List PyData} {i : Int} : gIx S (.d (.list xs)) (.d (.int i)) = atI (xs.map .d) i := rfl
theorem ix_tup {xs : List PyData} {i : Int} : gIx S (.d (.tuple xs)) (.d (.int i)) = atI (xs.map .d) i := rfl
/-- what a cell tells as a sequence -/
def refS (fl : Bool) (o : Option (Bool × Mo)) : Option (Bool × List Mv) := match o with
  | some (c, .lst xs) => if c = fl then some (false, xs) else none
  | some (c, .tup xs) => if c = fl then some (true, xs) else none
  | _ => none
theorem refS_lst {fl : Bool} {xs : List Mv} : refS fl (some (fl, .lst xs)) = some (false, xs) := if_pos rfl
theorem refS_tup {fl : Bool} {xs : List Mv} : refS fl (some (fl, .tup xs)) = some (true, xs) := if_pos rfl
theorem seq_ref {i : Nat} : Mv.seq S (.ref i) = refS false S[i]? := by
  simp only [Mv.seq]
  cases S[i]? with
  | none => rfl
  | some p => obtain ⟨c, o⟩ := p; cases o <;> cases c <;> rfl
theorem seq_own {i : Nat} : Mv.seq S (.own i) = refS true S[i]? := by
  simp only [Mv.seq]
  cases S[i]? with
  | none => rfl
  | some p => obtain ⟨c, o⟩ := p; cases o <;> cases c <;> rfl
theorem seq_list {xs : List PyData} : Mv.seq S (.d (.list xs)) = some (false, xs.map .d) := rfl
theorem seq_tup {xs : List PyData} : Mv.seq S (.d (.tuple xs)) = some (true, xs.map .d) := rfl
def ixK (i : Int) (o : Option (Bool × List Mv)) : Option Mv := match o with | some q => atI q.2 i | none => none
theorem ixK_some {i : Int} {b : Bool} {xs : List Mv} : ixK i (some (b, xs)) = atI xs i := rfl
theorem ix_ref {j : Nat} {i : Int} : gIx S (.ref j) (.d (.int i)) = ixK i (Mv.seq S (.ref j)) := by
  show (Mv.seq S (.ref j)).bind _ = _
  cases Mv.seq S (.ref j) <;> rfl
theorem ix_own {j : Nat} {i : Int} : gIx S (.own j) (.d (.int i)) = ixK i (Mv.seq S (.own j)) := by
  show (Mv.seq S (.own j)).bind _ = _
  cases Mv.seq S (.own j) <;> rfl
def listO (o : Option (Bool × List Mv)) : Option (List Mv) := match o with | some (false, xs) => some xs | _ => none
theorem listO_f {xs : List Mv} : listO (some (false, xs)) = some xs := rfl
theorem ev_list {x : Mv} : x.isList S = listO (x.seq S) := rfl
theorem at0 {α : Type} {x : α} {r : List α} : atI (x :: r) 0 = some x := by
  unfold atI ixN; rw [if_pos (by omega), if_pos (by rw [List.length_cons]; omega)]; rfl
theorem at1 {α : Type} {x y : α} {r : List α} : atI (x :: y :: r) 1 = some y := by
  unfold atI ixN; rw [if_pos (by omega), if_pos (by simp only [List.length_cons]; omega)]; rfl
theorem at2 {α : Type} {x y z : α} {r : List α} : atI (x :: y :: z :: r) 2 = some z := by
  unfold atI ixN; rw [if_pos (by omega), if_pos (by simp only [List.length_cons]; omega)]; rfl
theorem at3 {α : Type} {x y z u : α} {r : List α} : atI (x :: y :: z :: u :: r) 3 = some u := by
  unfold atI ixN; rw [if_pos (by omega), if_pos (by simp only [List.length_cons]; omega)]; rfl
theorem at4 {α : Type} {x y z u v : α} {r : List α} : atI (x :: y :: z :: u :: v :: r) 4 = some v := by
  unfold atI ixN; rw [if_pos (by omega), if_pos (by simp only [List.length_cons]; omega)]; rfl
theorem atI_nat {α : Type} {xs : List α} {i : Int} (h0 : 0 ≤ i) (h1 : i < xs.length) : atI xs i = xs[i.toNat]? := by
  unfold atI ixN; rw [if_pos h0, if_pos h1]; rfl
theorem ixN0 {n : Nat} : ixN (n + 1) 0 = some 0 := by unfold ixN; rw [if_pos (by omega), if_pos (by omega)]; rfl
theorem ixN1 {n : Nat} : ixN (n + 1 + 1) 1 = some 1 := by unfold ixN; rw [if_pos (by omega), if_pos (by omega)]; rfl
theorem ixN2 {n : Nat} : ixN (n + 1 + 1 + 1) 2 = some 2 := by unfold ixN; rw [if_pos (by omega), if_pos (by omega)]; rfl
theorem ev_oN : mON ρ S = .ok none S := rfl
def kOS (x : Mv) (S : Sg) : Res (Option Int) := match x with | .d (.int i) => .ok (some i) S | _ => .bad
theorem ev_oS {m : ME} : mOS m ρ S = (m ρ S).bind kOS := rfl
theorem oS_int {i : Int} : kOS (.d (.int i)) S = .ok (some i) S := rfl
def k3Sl (b : Bi) (x : Mv) (l : Option Int) : Option Int → Sg → Res Mv := fun u S => bearO b (gSl S x l u) S
def k2Sl (b : Bi) (x : Mv) (hi : MO) (ρ : Rho) : Option Int → Sg → Res Mv := fun l S => (hi ρ S).bind (k3Sl b x l)
def k1Sl (b : Bi) (lo hi : MO) (ρ : Rho) : Mv → Sg → Res Mv := fun x S => (lo ρ S).bind (k2Sl b x hi ρ)
theorem ev_sl {b : Bi} {a : ME} {lo hi : MO} : mSl b a lo hi ρ S = (a ρ S).bind (k1Sl b lo hi ρ) := rfl
theorem ev_sl1 {b : Bi} {lo hi : MO} {x : Mv} : k1Sl b lo hi ρ x S = (lo ρ S).bind (k2Sl b x hi ρ) := rfl
theorem ev_sl2 {b : Bi} {hi : MO} {x : Mv} {l : Option Int} : k2Sl b x hi ρ l S = (hi ρ S).bind (k3Sl b x l) := rfl
theorem ev_sl3 {b : Bi} {x : Mv} {l u : Option Int} : k3Sl b x l u S = bearO b (gSl S x l u) S := rfl
theorem sl_txt {z : Str} {l u : Option Int} (h : z.length ≤ sizeLine) : gSl S (.d (.str z)) l u = some (.val (.d (.str (cutS z l u)))) := if_pos h
theorem sl_lst {xs : List PyData} {l u : Option Int} : gSl S (.d (.list xs)) l u = some (.lst (cutM (xs.map .d) l u)) := rfl
def kRev (b : Bi) : Mv → Sg → Res Mv := fun x S => match x with
  | .d (.str z) => if z.length ≤ sizeLine then .ok (.d (.str (revS z))) S else .bad
  | x => match x.isList S with | some xs => bear b (.lst xs.reverse) S | none => .bad
theorem ev_rev {b : Bi} {m : ME} : mRev b m ρ S = (m ρ S).bind (kRev b) := by
  unfold mRev
  congr 1
theorem rev_str {b : Bi} {z : Str} (h : z.length ≤ sizeLine) : kRev b (.d (.str z)) S = .ok (.d (.str (revS z))) S := if_pos h
theorem rev_list {b : Bi} {xs : List PyData} : kRev b (.d (.list xs)) S = bear b (.lst (xs.map Mv.d).reverse) S := rfl
/-! methods -/
def k2BM (b : Bi) (g : Sg → Mv → List Mv → Option Nw) (x : Mv) : List Mv → Sg → Res Mv := fun xs S => bearO b (g S x xs) S
def k1BM (b : Bi) (T : String) (g : Sg → Mv → List Mv → Option Nw) (a : MA) (ρ : Rho) : Mv → Sg → Res Mv := fun x S => if tyM T x S = true then (a ρ S).bind (k2BM b g x) else .bad
theorem ev_bm {b : Bi} {T : String} {g : Sg → Mv → List Mv → Option Nw} {o : ME} {a : MA} : mBM b T g o a ρ S = (o ρ S).bind (k1BM b T g a ρ) := rfl
def cBM (c : Bool) (b : Bi) (g : Sg → Mv → List Mv → Option Nw) (a : MA) (ρ : Rho) (x : Mv) (S : Sg) : Res Mv := if c = true then (a ρ S).bind (k2BM b g x) else .bad
theorem ev_bm1 {b : Bi} {T : String} {g : Sg → Mv → List Mv → Option Nw} {a : MA} {x : Mv} : k1BM b T g a ρ x S = cBM (tyM T x S) b g a ρ x S := rfl
theorem cBM_t {b : Bi} {g : Sg → Mv → List Mv → Option Nw} {a : MA} {x : Mv} : cBM true b g a ρ x S = (a ρ S).bind (k2BM b g x) := rfl
theorem ev_bm2 {b : Bi} {g : Sg → Mv → List Mv → Option Nw} {x : Mv} {xs : List Mv} : k2BM b g x xs S = bearO b (g S x xs) S := rfl
def buO (o : Option (Mv × Sg)) : Res Mv := match o with | some (z, S') => .ok z S' | none => .bad
theorem buO_some {z : Mv} : buO (some (z, S)) = .ok z S := rfl
def k2BU (g : Sg → Mv → List Mv → Option (Mv × Sg)) (x : Mv) : List Mv → Sg → Res Mv := fun xs S => buO (g S x xs)
def k1BU (T : String) (g : Sg → Mv → List Mv → Option (Mv × Sg)) (a : MA) (ρ : Rho) : Mv → Sg → Res Mv := fun x S => if tyM T x S = true then (a ρ S).bind (k2BU g x) else .bad
theorem ev_bu {T : String} {g : Sg → Mv → List Mv → Option (Mv × Sg)} {o : ME} {a : MA} : mBU T g o a ρ S = (o ρ S).bind (k1BU T g a ρ) := rfl
def cBU (c : Bool) (g : Sg → Mv → List Mv → Option (Mv × Sg)) (a : MA) (ρ : Rho) (x : Mv) (S : Sg) : Res Mv := if c = true then (a ρ S).bind (k2BU g x) else .bad
theorem ev_bu1 {T : String} {g : Sg → Mv → List Mv → Option (Mv × Sg)} {a : MA} {x : Mv} : k1BU T g a ρ x S = cBU (tyM T x S) g a ρ x S := rfl
theorem cBU_t {g : Sg → Mv → List Mv → Option (Mv × Sg)} {a : MA} {x : Mv} : cBU true g a ρ x S = (a ρ S).bind (k2BU g x) := rfl
theorem ev_bu2 {g : Sg → Mv → List Mv → Option (Mv × Sg)} {x : Mv} {xs : List Mv} : k2BU g x xs S = buO (g S x xs) := rfl
theorem ty_str {T : String} {z : Str} : tyM T (.d (.str z)) S = (T == "str") := rfl
def tyO (T : String) (o : Option (List Mv)) : Bool := match o with | some _ => T == "list" | none => false
theorem tyO_some {T : String} {xs : List Mv} : tyO T (some xs) = (T == "list") := rfl
theorem ty_ref {T : String} {i : Nat} : tyM T (.ref i) S = tyO T (Mv.isList S (.ref i)) := rfl
theorem ty_own {T : String} {i : Nat} : tyM T (.own i) S = tyO T (Mv.isList S (.own i)) := rfl
theorem ty_list {T : String} {xs : List PyData} : tyM T (.d (.list xs)) S = (T == "list") := rfl
theorem beq_ll : (("list" : String) == "list") = true := by decide
theorem beq_ss : (("str" : String) == "str") = true := by decide
def celO (fl : Bool) (i : Nat) (o : Option (Bool × Mo)) : Option (Nat × Bool × Mo) := match o with | some (c, o) => if c = fl then some (i, fl, o) else none | none => none
theorem celO_some {fl : Bool} {i : Nat} {o : Mo} : celO fl i (some (fl, o)) = some (i, fl, o) := if_pos rfl
theorem cell_ref {i : Nat} : Mv.cell S (.ref i) = celO false i S[i]? := by
  unfold Mv.cell; simp only
  cases S[i]? with
  | none => rfl
  | some p => obtain ⟨c, o⟩ := p; cases c <;> rfl
theorem cell_own {i : Nat} : Mv.cell S (.own i) = celO true i S[i]? := by
  unfold Mv.cell; simp only
  cases S[i]? with
  | none => rfl
  | some p => obtain ⟨c, o⟩ := p; cases c <;> rfl
def appO (o : Option (Nat × Bool × Mo)) (y : Mv) (S : Sg) : Option (Mv × Sg) := match o with
  | some (i, b, .lst zs) => if y.free = true ∧ zs.length < sizeLine then some (.d .none, S.set i (b, .lst (zs ++ [y]))) else none
  | _ => none
theorem ev_append {x y : Mv} : uAppend S x [y] = appO (x.cell S) y S := rfl
theorem appO_some {y : Mv} {i : Nat} {b : Bool} {zs : List Mv} (h1 : y.free = true) (h2 : zs.length < sizeLine) : appO (some (i, b, .lst zs)) y S = some (.d .none, S.set i (b, .lst (zs ++ [y]))) := if_pos ⟨h1, h2⟩
def extO (o : Option (Nat × Bool × Mo)) (p : Option (List Mv)) (S : Sg) : Option (Mv × Sg) := match o, p with
  | some (i, b, .lst zs), some ys => if zs.length + ys.length ≤ sizeLine then some (.d .none, S.set i (b, .lst (zs ++ ys))) else none
  | _, _ => none
theorem ev_extend {x y : Mv} : uExtend S x [y] = extO (x.cell S) (y.isList S) S := rfl
theorem extO_some {i : Nat} {b : Bool} {zs ys : List Mv} (h2 : zs.length + ys.length ≤ sizeLine) : extO (some (i, b, .lst zs)) (some ys) S = some (.d .none, S.set i (b, .lst (zs ++ ys))) := if_pos h2
def popO (o : Option (Nat × Bool × Mo)) (S : Sg) : Option (Mv × Sg) := match o with
  | some (i, b, .lst zs) => (zs[zs.length - 1]?).map fun y => (y, S.set i (b, .lst zs.dropLast))
  | _ => none
theorem ev_pop {x : Mv} : uPop S x [] = popO (x.cell S) S := rfl
theorem popO_snoc {i : Nat} {b : Bool} {zs : List Mv} {y : Mv} : popO (some (i, b, .lst (zs ++ [y]))) S = some (y, S.set i (b, .lst zs)) := by
  unfold popO; simp
def k2Ind (z : Str) (xs : List Mv) (S : Sg) : Res Mv := match xs with
  | [.d (.str y)] => match Txt.index0 z y with | some k => .ok (.d (.int (k : Nat))) S | none => .exc exVal S
  | _ => .bad
def k1Ind (a : MA) (ρ : Rho) : Mv → Sg → Res Mv := fun x S => match x with
  | .d (.str z) => (a ρ S).bind (k2Ind z)
  | _ => .bad
theorem ev_ind {o : ME} {a : MA} : mIndex o a ρ S = (o ρ S).bind (k1Ind a ρ) := rfl
theorem ev_ind1 {a : MA} {z : Str} : k1Ind a ρ (.d (.str z)) S = (a ρ S).bind (k2Ind z) := rfl
theorem ind_some {z y : Str} {k : Nat} (h : Txt.index0 z y = some k) : k2Ind z [.d (.str y)] S = .ok (.d (.int (k : Nat))) S := by unfold k2Ind; simp only; rw [h]
def negO (x : Mv) (S : Sg) : Res Mv := match x with | .d (.int i) => .ok (.d (.int (-i))) S | _ => .bad
theorem ev_neg {a : ME} : mNeg a ρ S = (a ρ S).bind negO := rfl
theorem neg_int {i : Int} : negO (.d (.int i)) S = .ok (.d (.int (-i))) S := rfl
/-! walks -/
def itO (o : Option (List Mv)) (S : Sg) : Res (List Mv) := match o with | some xs => .ok xs S | none => .bad
def kIt : Mv → Sg → Res (List Mv) := fun x S => itO x.items S
theorem ev_iter {m : ME} : mIter m ρ S = (m ρ S).bind kIt := rfl
theorem ev_it {x : Mv} : kIt x S = itO x.items S := rfl
theorem itO_some {xs : List Mv} : itO (some xs) S = .ok xs S := rfl
theorem items_list {xs : List PyData} : Mv.items (.d (.list xs)) = some (xs.map .d) := rfl
theorem items_tup {xs : List PyData} : Mv.items (.d (.tuple xs)) = some (xs.map .d) := rfl
theorem items_str {z : Str} : Mv.items (.d (.str z)) = some (signs z) := rfl
noncomputable def kRg1 : List Mv → Sg → Res (List Mv) := fun xs S => match xs with | [.d (.int j)] => @ite _ (-(2 ^ 62) ≤ j ∧ j < 2 ^ 62) (Classical.propDecidable _) (.ok (rangeL 0 j.toNat) S) .bad | _ => .bad
theorem ev_rg1 {a : MA} : mRange1 a ρ S = (a ρ S).bind kRg1 := rfl
theorem rg1_int {j : Int} (h : -(2 ^ 62) ≤ j ∧ j < 2 ^ 62) : kRg1 [.d (.int j)] S = .ok (rangeL 0 j.toNat) S := if_pos h
def k2Lc (b : Bi) : List Mv → Sg → Res Mv := fun acc S => bear b (.lst acc) S
def k1Lc (b : Bi) (g : MG) (tt : MT) (te : ME) (vs : List Nat) (ρ : Rho) : List Mv → Sg → Res Mv := fun xs S => (lcLoop g tt te (wipeM ρ vs) xs [] S).nox.bind (k2Lc b)
theorem ev_lc {b : Bi} {mi : MA} {g : MG} {tt : MT} {te : ME} {vs : List Nat} : mLc b mi g tt te vs ρ S = (mi ρ S).bind (k1Lc b g tt te vs ρ) := rfl
theorem ev_lc1 {b : Bi} {g : MG} {tt : MT} {te : ME} {vs : List Nat} {xs : List Mv} : k1Lc b g tt te vs ρ xs S = (lcLoop g tt te (wipeM ρ vs) xs [] S).nox.bind (k2Lc b) := rfl
theorem ev_lc2 {b : Bi} {acc : List Mv} : k2Lc b acc S = bear b (.lst acc) S := rfl
theorem wipe_nil : wipeM ρ [] = ρ := rfl
theorem wipe_cons {v : Nat} {vs : List Nat} : wipeM ρ (v :: vs) = (wipeM ρ vs).set v none := rfl
/-! statements -/
def sq (r : RS) (b : MS) : RS := match r with | .nx ρ' S' => b ρ' S' | r => r
theorem ev_seq {a b : MS} : mSeq a b ρ S = sq (a ρ S) b := rfl
theorem seq_nx {b : MS} : sq (RS.nx ρ S) b = b ρ S := rfl
theorem seq_rt {x : Mv} {b : MS} : sq (RS.rt x S) b = .rt x S := rfl
theorem seq_exc {e : Ex} {b : MS} : sq (RS.exc e ρ S) b = .exc e ρ S := rfl
theorem seq_bk {b : MS} : sq (RS.bk ρ S) b = .bk ρ S := rfl
theorem seq_ct {b : MS} : sq (RS.ct ρ S) b = .ct ρ S := rfl
def nxO (o : Option Rho) (S : Sg) : RS := match o with | some ρ' => .nx ρ' S | none => .bad
def kAsg (g : MG) (ρ : Rho) : Mv → Sg → RS := fun x S => nxO (g S x ρ) S
theorem ev_asg {m : ME} {g : MG} : mAsg m g ρ S = (m ρ S).go ρ (kAsg g ρ) := rfl
theorem ev_asg1 {g : MG} {x : Mv} : kAsg g ρ x S = nxO (g S x ρ) S := rfl
theorem nxO_some : nxO (some ρ) S = .nx ρ S := rfl
theorem mg_name {i : Nat} {x : Mv} : mgName i S x ρ = some (ρ.set i (some x)) := rfl
theorem mg_nil : mgNil S [] ρ = some ρ := rfl
theorem mg_cons {g : MG} {r : MGs} {x : Mv} {xs : List Mv} : mgCons g r S (x :: xs) ρ = (g S x ρ).bind fun ρ' => r S xs ρ' := rfl
theorem mg_consN {i : Nat} {r : MGs} {x : Mv} {xs : List Mv} : mgCons (mgName i) r S (x :: xs) ρ = r S xs (ρ.set i (some x)) := rfl
theorem mg_tup {n : Nat} {g : MGs} {xs : List PyData} (h : (xs.map Mv.d).length = n) : mgTup n g S (.d (.tuple xs)) ρ = g S (xs.map .d) ρ := if_pos h
def kExpr (ρ : Rho) : Mv → Sg → RS := fun _ S => .nx ρ S
theorem ev_expr {m : ME} : mExpr m ρ S = (m ρ S).go ρ (kExpr ρ) := rfl
theorem ev_expr1 {x : Mv} : kExpr ρ x S = .nx ρ S := rfl
def kRet : Mv → Sg → RS := fun x S => .rt x S
theorem ev_ret {m : ME} : mRet m ρ S = (m ρ S).go ρ kRet := rfl
theorem ev_ret1 {x : Mv} : kRet x S = .rt x S := rfl
theorem ev_retN : mRetN ρ S = .rt (.d .none) S := rfl
theorem ev_skip : mSkip ρ S = .nx ρ S := rfl
theorem ev_brk : mBrk ρ S = .bk ρ S := rfl
theorem ev_cnt : mCnt ρ S = .ct ρ S := rfl
def kIf (a b : MS) (ρ : Rho) : Bool → Sg → RS := fun k S => if k = true then a ρ S else b ρ S
theorem ev_if {c : MT} {a b : MS} : mIfS c a b ρ S = (c ρ S).go ρ (kIf a b ρ) := rfl
theorem if_t {a b : MS} : kIf a b ρ true S = a ρ S := rfl
theorem if_f {a b : MS} : kIf a b ρ false S = b ρ S := rfl
def kFor (g : MG) (b : MS) (ρ : Rho) : List Mv → Sg → RS := fun xs S => mLoop g b xs ρ S
theorem ev_for {mi : MA} {g : MG} {b : MS} : mFor mi g b ρ S = (mi ρ S).go ρ (kFor g b ρ) := rfl
theorem ev_for1 {g : MG} {b : MS} {xs : List Mv} : kFor g b ρ xs S = mLoop g b xs ρ S := rfl
def fzO (o : Option (List PyData)) (S : Sg) (i : Nat) : Res Mv := match o with | some ds => .ok (.d (.list ds)) (S.set i (true, .gone)) | none => .bad
theorem ev_fz {m : ME} : mFz m ρ S = (m ρ S).bind fz := rfl
def fzC (i : Nat) (o : Option (Bool × Mo)) (S : Sg) : Res Mv := match o with
  | some (true, .lst xs) => fzO (allD xs) S i
  | _ => .bad
theorem fz_own {i : Nat} : fz (.own i) S = fzC i S[i]? S := by
  unfold fz fzC; simp only
  cases S[i]? with
  | none => rfl
  | some p => obtain ⟨c, o⟩ := p; cases o <;> cases c <;> rfl
theorem fzC_some {i : Nat} {xs : List Mv} : fzC i (some (true, .lst xs)) S = fzO (allD xs) S i := rfl
theorem fzO_some {i : Nat} {ds : List PyData} : fzO (some ds) S i = .ok (.d (.list ds)) (S.set i (true, .gone)) := rfl
theorem fz_d {x : PyData} : fz (.d x) S = .ok (.d x) S := rfl
theorem fz_ref {i : Nat} : fz (.ref i) S = .ok (.ref i) S := rfl
def stO (ρ : Rho) (o : Option Sg) : RS := match o with | some S => .nx ρ S | none => .bad
theorem stO_some : stO ρ (some S) = .nx ρ S := rfl
def k3St (ρ : Rho) (z x : Mv) : Mv → Sg → RS := fun y S => stO ρ (setIx S x y z)
def k2St (i : ME) (ρ : Rho) (z : Mv) : Mv → Sg → RS := fun x S => (i ρ S).go ρ (k3St ρ z x)
def k1St (o i : ME) (ρ : Rho) : Mv → Sg → RS := fun z S => (o ρ S).go ρ (k2St i ρ z)
theorem ev_st {v o i : ME} : mSetIx v o i ρ S = (v ρ S).go ρ (k1St o i ρ) := rfl
theorem ev_st1 {o i : ME} {z : Mv} : k1St o i ρ z S = (o ρ S).go ρ (k2St i ρ z) := rfl
theorem ev_st2 {i : ME} {z x : Mv} : k2St i ρ z x S = (i ρ S).go ρ (k3St ρ z x) := rfl
theorem ev_st3 {z x y : Mv} : k3St ρ z x y S = stO ρ (setIx S x y z) := rfl
def siO (o : Option (Nat × Bool × Mo)) (k : Int) (z : Mv) (S : Sg) : Option Sg := match o with
  | some (i, b, .lst zs) => if z.free = true then (ixN zs.length k).map fun j => S.set i (b, .lst (zs.set j z)) else none
  | _ => none
theorem ev_setIx {x z : Mv} {k : Int} : setIx S x (.d (.int k)) z = siO (x.cell S) k z S := rfl
theorem siO_some {i : Nat} {b : Bool} {zs : List Mv} {k : Int} {z : Mv} (h : z.free = true) : siO (some (i, b, .lst zs)) k z S = (ixN zs.length k).map fun j => S.set i (b, .lst (zs.set j z)) := if_pos h
def kPar (i j : Nat) (ρ : Rho) : List Mv → Sg → RS := fun xs S => match xs with | [x, y] => .nx ((ρ.set i (some x)).set j (some y)) S | _ => .bad
theorem ev_par {i j : Nat} {a : MA} : mPar i j a ρ S = (a ρ S).go ρ (kPar i j ρ) := rfl
theorem ev_par1 {i j : Nat} {x y : Mv} : kPar i j ρ [x, y] S = .nx ((ρ.set i (some x)).set j (some y)) S := rfl
/-! defs -/
def begin_ (n : Nat) (xs : List Mv) : Rho := xs.map some ++ List.replicate (n - xs.length) none
def nones : Nat → Rho
  | 0 => []
  | n + 1 => none :: nones n
theorem nones_zero : nones 0 = [] := rfl
theorem nones_succ {n : Nat} : nones (n + 1) = none :: nones n := rfl
theorem nones_eq : ∀ n, List.replicate n none = nones n
  | 0 => rfl
  | n + 1 => by rw [List.replicate_succ, nones_eq n]; rfl
theorem begin_eq {n : Nat} {xs : List Mv} : begin_ n xs = xs.map some ++ nones (n - xs.length) := by unfold begin_; rw [nones_eq]
theorem ev_fn {n : Nat} {m : MS} {xs : List Mv} : fnM n m xs S = fin S.length (m (begin_ n xs) S) := rfl
theorem fin_rt {x : PyData} {n : Nat} : fin n (.rt (.d x) S) = .ok (.d x) (trim n S) := rfl
theorem fin_ref {i : Nat} {n : Nat} : fin n (.rt (.ref i) S) = .ok (.ref i) (trim n S) := rfl
theorem fin_nx {n : Nat} : fin n (.nx ρ S) = .ok (.d .none) (trim n S) := rfl
theorem fin_exc {e : Ex} {n : Nat} (h : exFree e = true) : fin n (.exc e ρ S) = .exc e (trim n S) := if_pos h
theorem trim_same {n : Nat} (h : S.length = n) : trim n S = S := by
  subst h
  unfold trim
  rw [List.drop_length, List.take_length]
  rfl
theorem trim_app {n : Nat} {T : Sg} (h : S.length = n) (hT : T.all (·.1) = true) : trim n (S ++ T) = S := by
  subst h
  unfold trim
  rw [List.drop_left, if_pos hT, List.take_left]
/-! loops -/
theorem loop_nil {g : MG} {b : MS} : mLoop g b [] ρ S = .nx ρ S := rfl
/-- one turn that goes on -/
theorem loop_on {g : MG} {b : MS} {x : Mv} {xs : List Mv} {ρ1 ρ2 : Rho} {S2 : Sg} (h1 : g S x ρ = some ρ1) (h2 : b ρ1 S = .nx ρ2 S2) : mLoop g b (x :: xs) ρ S = mLoop g b xs ρ2 S2 := by
  simp only [mLoop]; rw [h1]; simp only; rw [h2]
theorem loop_ct {g : MG} {b : MS} {x : Mv} {xs : List Mv} {ρ1 ρ2 : Rho} {S2 : Sg} (h1 : g S x ρ = some ρ1) (h2 : b ρ1 S = .ct ρ2 S2) : mLoop g b (x :: xs) ρ S = mLoop g b xs ρ2 S2 := by
  simp only [mLoop]; rw [h1]; simp only; rw [h2]
theorem loop_rt {g : MG} {b : MS} {x y : Mv} {xs : List Mv} {ρ1 : Rho} {S2 : Sg} (h1 : g S x ρ = some ρ1) (h2 : b ρ1 S = .rt y S2) : mLoop g b (x :: xs) ρ S = .rt y S2 := by
  simp only [mLoop]; rw [h1]; simp only; rw [h2]
theorem loop_bk {g : MG} {b : MS} {x : Mv} {xs : List Mv} {ρ1 ρ2 : Rho} {S2 : Sg} (h1 : g S x ρ = some ρ1) (h2 : b ρ1 S = .bk ρ2 S2) : mLoop g b (x :: xs) ρ S = .nx ρ2 S2 := by
  simp only [mLoop]; rw [h1]; simp only; rw [h2]
theorem lc_nil {g : MG} {tt : MT} {te : ME} {acc : List Mv} : lcLoop g tt te ρ [] acc S = .ok acc S := rfl
theorem lc_yes {g : MG} {te : ME} {x y : Mv} {xs acc : List Mv} {ρ1 : Rho} {S2 : Sg} (h1 : g S x ρ = some ρ1) (h2 : te ρ1 S = .ok y S2) (h3 : y.free = true) (h4 : acc.length < sizeLine) : lcLoop g mYes te ρ (x :: xs) acc S = lcLoop g mYes te ρ xs (acc ++ [y]) S2 := by
  simp only [lcLoop]; rw [h1]; simp only [mYes, Res.bind, if_true]; rw [h2]; simp only; rw [if_pos ⟨h3, h4⟩]
theorem lc_in {g : MG} {tt : MT} {te : ME} {x y : Mv} {xs acc : List Mv} {ρ1 : Rho} {S1 S2 : Sg} (h1 : g S x ρ = some ρ1) (h0 : tt ρ1 S = .ok true S1) (h2 : te ρ1 S1 = .ok y S2) (h3 : y.free = true) (h4 : acc.length < sizeLine) : lcLoop g tt te ρ (x :: xs) acc S = lcLoop g tt te ρ xs (acc ++ [y]) S2 := by
  simp only [lcLoop]; rw [h1]; simp only; rw [h0]; simp only [Res.bind, if_true]; rw [h2]; simp only; rw [if_pos ⟨h3, h4⟩]
theorem lc_out {g : MG} {tt : MT} {te : ME} {x : Mv} {xs acc : List Mv} {ρ1 : Rho} {S1 : Sg} (h1 : g S x ρ = some ρ1) (h0 : tt ρ1 S = .ok false S1) : lcLoop g tt te ρ (x :: xs) acc S = lcLoop g tt te ρ xs acc S1 := by
  simp only [lcLoop]; rw [h1]; simp only; rw [h0]; simp [Res.bind]
theorem wh_on {c : MT} {b : MS} {n : Nat} {ρ2 : Rho} {S1 S2 : Sg} (h : c ρ S = .ok true S1) (h2 : b ρ S1 = .nx ρ2 S2) : mWhile c b (n + 1) ρ S = mWhile c b n ρ2 S2 := by
  simp only [mWhile]; rw [h]; simp only [Res.go, if_true]; rw [h2]
theorem wh_end {c : MT} {b : MS} {n : Nat} {S1 : Sg} (h : c ρ S = .ok false S1) : mWhile c b (n + 1) ρ S = .nx ρ S1 := by
  simp only [mWhile]; rw [h]; simp [Res.go]
/-- a comprehension whose items are reckoned one by one, the store as it is -/
theorem lc_map {g : MG} {te : ME} {f : Mv → Mv} : ∀ {xs acc : List Mv}, (∀ x ∈ xs, ∃ ρ1, g S x ρ = some ρ1 ∧ te ρ1 S = .ok (f x) S ∧ (f x).free = true) → acc.length + xs.length ≤ sizeLine → lcLoop g mYes te ρ xs acc S = .ok (acc ++ xs.map f) S
  | [], acc, _, _ => by rw [lc_nil, List.map_nil, List.append_nil]
  | x :: xs, acc, h, hl => by
    obtain ⟨ρ1, h1, h2, h3⟩ := h x (List.mem_cons_self ..)
    rw [List.length_cons] at hl
    rw [lc_yes h1 h2 h3 (by omega), lc_map (fun y hy => h y (List.mem_cons_of_mem _ hy)) (by rw [List.length_append, List.length_singleton]; omega), List.map_cons, List.append_assoc]
    rfl
end
end MM.Q
end
section
set_option Elab.async false
set_option linter.all false
set_option maxRecDepth 100000
set_option maxHeartbeats 4000000
set_option autoImplicit false
namespace MM.Q
open PySem PySem.Spec PyProof.Rows L2 MM

/-! ### texts by their codes -/
def st (l : List Nat) : Str := ⟨l.toArray⟩
abbrev cs (z : Str) : List Nat := z.cps.toList
theorem st_cs (z : Str) : st (cs z) = z := by unfold st cs; cases z; simp
theorem cs_st (l : List Nat) : cs (st l) = l := by simp [st, cs]
theorem st_inj {a b : List Nat} (h : st a = st b) : a = b := by rw [← cs_st a, ← cs_st b, h]
theorem st_len {l : List Nat} : (st l).length = l.length := by simp [st, Str.length]
theorem cs_len {z : Str} : (cs z).length = z.length := by simp [cs, Str.length]
theorem st_app {a b : List Nat} : st a ++ st b = st (a ++ b) := by
  have h : (st a ++ st b).cps = (st a).cps ++ (st b).cps := Str.cps_append _ _
  have : (st a ++ st b) = ⟨(st a).cps ++ (st b).cps⟩ := by
    cases e : st a ++ st b with
    | mk c => rw [e] at h; simp only at h; rw [h]
  rw [this]; simp [st]
theorem cs_app {a b : Str} : cs (a ++ b) = cs a ++ cs b := by rw [← st_cs a, ← st_cs b, st_app, cs_st, cs_st, cs_st]
theorem signs_st {l : List Nat} : signs (st l) = l.map fun c => .d (.str (st [c])) := by simp [signs, st]
theorem app_len {a b : Str} : (a ++ b).length = a.length + b.length := by rw [← cs_len, cs_app, List.length_append, cs_len, cs_len]
theorem cutS_st {l : List Nat} {lo hi : Option Int} : cutS (st l) lo hi = st ((l.drop (HT.sIx l.length 0 lo)).take (HT.sIx l.length l.length hi - HT.sIx l.length 0 lo)) := by
  unfold cutS
  rw [show (st l).length = l.length from st_len]
  simp [st]
theorem revS_st {l : List Nat} : revS (st l) = st l.reverse := by simp [revS, st]
theorem cutS_mem {z : Str} {lo hi : Option Int} {c : Nat} (h : c ∈ cs (cutS z lo hi)) : c ∈ cs z := by
  unfold cutS at h
  simp only [cs] at h
  exact List.mem_of_mem_drop (List.mem_of_mem_take h)
theorem cutS_len {z : Str} {lo hi : Option Int} : (cutS z lo hi).length ≤ z.length := cutS_length z lo hi
theorem revS_len {z : Str} : (revS z).length = z.length := by simp [revS, Str.length]
theorem revS_mem {z : Str} {c : Nat} (h : c ∈ cs (revS z)) : c ∈ cs z := by simpa [revS, cs] using h
theorem strRep_mem {z : Str} {n c : Nat} (h : c ∈ cs (strRep z n)) : c ∈ cs z := by
  simp only [strRep, cs] at h
  simp only [List.mem_flatten, List.mem_replicate] at h
  obtain ⟨l, ⟨_, rfl⟩, h⟩ := h
  exact h
/-- the signs of a text are below the line of code points -/
theorem strOk_of {z : Str} (h : ∀ c ∈ cs z, c < 0x110000) : PyData.strOk z = true := by
  unfold PyData.strOk
  rw [Array.all_eq_true]
  intro i hi
  exact decide_eq_true (h _ (by simp [cs]))
theorem in_sign {c : Nat} {z : Str} : inStr (st [c]) z = decide (c ∈ cs z) := by
  have h := PySem.StrLaws.found_one z c
  unfold inStr
  exact h

/-! cuts of lists -/
def cutL {α : Type} (xs : List α) (lo hi : Option Int) : List α := (xs.drop (HT.sIx xs.length 0 lo)).take (HT.sIx xs.length xs.length hi - HT.sIx xs.length 0 lo)
theorem cutM_L {xs : List Mv} {lo hi : Option Int} : cutM xs lo hi = cutL xs lo hi := rfl
theorem cutL_map {α β : Type} {f : α → β} {xs : List α} {lo hi : Option Int} : cutL (xs.map f) lo hi = (cutL xs lo hi).map f := by
  unfold cutL; rw [List.length_map, ← List.map_drop, ← List.map_take]
theorem cutL_mem {α : Type} {xs : List α} {lo hi : Option Int} {x : α} (h : x ∈ cutL xs lo hi) : x ∈ xs := List.mem_of_mem_drop (List.mem_of_mem_take h)
theorem cutL_len {α : Type} {xs : List α} {lo hi : Option Int} : (cutL xs lo hi).length ≤ xs.length := by
  unfold cutL; rw [List.length_take, List.length_drop]; omega
theorem cutL_to {α : Type} {xs : List α} {k : Nat} : cutL xs none (some (k : Int)) = xs.take k := by
  unfold cutL; rw [HT.sIx_none, HT.sIx_nat, List.drop_zero, Nat.sub_zero]
  rcases Nat.le_total k xs.length with h | h
  · rw [Nat.min_eq_left h]
  · rw [Nat.min_eq_right h, List.take_length, List.take_of_length_le h]
theorem cutL_from {α : Type} {xs : List α} {k : Nat} : cutL xs (some (k : Int)) none = xs.drop k := by
  unfold cutL; rw [HT.sIx_none, HT.sIx_nat]
  rcases Nat.le_total k xs.length with h | h
  · rw [Nat.min_eq_left h, List.take_of_length_le (by rw [List.length_drop]; omega)]
  · rw [Nat.min_eq_right h, List.drop_length, List.drop_of_length_le h, List.take_nil]

/-! ### built-ins by their arguments -/
section
variable {S : Sg}
def lenO (o : Option Nat) : Option Nw := match o with | some n => some (.val (.d (.int (n : Nat)))) | none => none
theorem ev_len {x : Mv} : gLen S [x] = lenO (x.len S) := by
  show (x.len S).map _ = _
  cases x.len S <;> rfl
theorem lenO_some {n : Nat} : lenO (some n) = some (.val (.d (.int (n : Nat)))) := rfl
theorem len_str {z : Str} (h : z.length ≤ sizeLine) : Mv.len S (.d (.str z)) = some z.length := if_pos h
theorem len_list {xs : List PyData} : Mv.len S (.d (.list xs)) = some xs.length := by simp [Mv.len, Mv.seq]
theorem len_tup {xs : List PyData} : Mv.len S (.d (.tuple xs)) = some xs.length := by simp [Mv.len, Mv.seq]
def lnO (o : Option (Bool × List Mv)) : Option Nat := match o with | some q => some q.2.length | none => none
theorem lnO_some {b : Bool} {xs : List Mv} : lnO (some (b, xs)) = some xs.length := rfl
theorem len_ref {i : Nat} : Mv.len S (.ref i) = lnO (Mv.seq S (.ref i)) := by
  show (Mv.seq S (.ref i)).map _ = _
  cases Mv.seq S (.ref i) <;> rfl
theorem len_own {i : Nat} : Mv.len S (.own i) = lnO (Mv.seq S (.own i)) := by
  show (Mv.seq S (.own i)).map _ = _
  cases Mv.seq S (.own i) <;> rfl
def lisO (o : Option (Bool × List Mv)) : Option Nw := match o with | some q => some (.lst q.2) | none => none
theorem ev_lst_l {x : List PyData} : gList S [.d (.list x)] = some (.lst (x.map .d)) := rfl
theorem ev_lst_t {x : List PyData} : gList S [.d (.tuple x)] = some (.lst (x.map .d)) := rfl
theorem ev_lst_r {i : Nat} : gList S [.ref i] = lisO (Mv.seq S (.ref i)) := by
  show (Mv.seq S (.ref i)).map _ = _
  cases Mv.seq S (.ref i) <;> rfl
theorem ev_lst_o {i : Nat} : gList S [.own i] = lisO (Mv.seq S (.own i)) := by
  show (Mv.seq S (.own i)).map _ = _
  cases Mv.seq S (.own i) <;> rfl
theorem lst_str {z : Str} (h : z.length ≤ sizeLine) : gList S [.d (.str z)] = some (.lst (signs z)) := if_pos h
theorem lisO_some {b : Bool} {xs : List Mv} : lisO (some (b, xs)) = some (.lst xs) := rfl
def l1O {α : Type} (p : List Mv → Option α) (f : α → Nw) (o : Option (List Mv)) : Option Nw := match o with | some ys => (p ys).map f | none => none
theorem ev_l1 {α : Type} {p : List Mv → Option α} {f : α → Nw} {x : Mv} : gList1 p f S [x] = l1O p f (x.isList S) := by
  show (x.isList S).bind _ = _
  cases x.isList S <;> rfl
theorem l1O_some {α : Type} {p : List Mv → Option α} {f : α → Nw} {ys : List Mv} : l1O p f (some ys) = (p ys).map f := rfl
theorem ev_sum {x : Mv} : gSum S [x] = l1O intsM (fun ns => .val (.d (.int ns.sum))) (x.isList S) := ev_l1
theorem ev_all {x : Mv} : gAll S [x] = l1O boolsM (fun bs => .val (.d (.bool (bs.all id)))) (x.isList S) := ev_l1
theorem ev_any {x : Mv} : gAny S [x] = l1O boolsM (fun bs => .val (.d (.bool (bs.any id)))) (x.isList S) := ev_l1
theorem ints_map (ns : List Int) : intsM ((ns.map PyData.int).map .d) = some ns := by
  induction ns with
  | nil => rfl
  | cons x r ih => show (intsM _).map (x :: ·) = _; rw [ih]; rfl
theorem bools_map (ns : List Bool) : boolsM ((ns.map PyData.bool).map .d) = some ns := by
  induction ns with
  | nil => rfl
  | cons x r ih => show (boolsM _).map (x :: ·) = _; rw [ih]; rfl
theorem strs_map (ns : List Str) : strsM ((ns.map PyData.str).map .d) = some ns := by
  induction ns with
  | nil => rfl
  | cons x r ih => show (strsM _).map (x :: ·) = _; rw [ih]; rfl
theorem divmod_int {i j : Int} (h : 0 < j ∧ j < 1073741824) : gDivmod S [.d (.int i), .d (.int j)] = some (.tup [.d (.int (i / j)), .d (.int (i % j))]) := if_pos h
def isiO (o : Option String) (c : String) : Option Nw := match o with | some t => (kitB t c).map fun b => .val (.d (.bool b)) | none => none
theorem ev_isi {x : Mv} {c : String} : gIsi S [x, .ty c] = isiO (x.kind S) c := by
  show (x.kind S).bind _ = _
  cases x.kind S <;> rfl
theorem isiO_some {t c : String} : isiO (some t) c = (kitB t c).map fun b => .val (.d (.bool b)) := rfl
theorem kind_str {z : Str} : Mv.kind S (.d (.str z)) = some "str" := rfl
theorem kind_int {z : Int} : Mv.kind S (.d (.int z)) = some "int" := rfl
theorem kind_bool {z : Bool} : Mv.kind S (.d (.bool z)) = some "bool" := rfl
theorem kind_none : Mv.kind S (.d .none) = some "NoneType" := rfl
theorem kind_dict {z : List (PyData × PyData)} : Mv.kind S (.d (.dict z)) = some "dict" := rfl
theorem kind_list {z : List PyData} : Mv.kind S (.d (.list z)) = some "list" := rfl
theorem kind_tup {z : List PyData} : Mv.kind S (.d (.tuple z)) = some "tuple" := rfl
theorem kit_ss : kitB "str" "str" = some true := by decide +kernel
theorem kit_is : kitB "int" "str" = some false := by decide +kernel
theorem kit_bs : kitB "bool" "str" = some false := by decide +kernel
theorem kit_ns : kitB "NoneType" "str" = some false := by decide +kernel
theorem kit_ds : kitB "dict" "str" = some false := by decide +kernel
theorem kit_ls : kitB "list" "str" = some false := by decide +kernel
theorem kit_ts : kitB "tuple" "str" = some false := by decide +kernel
def repO (o : Option PyData) : Option Nw := match o with
  | some d => if shows d = true ∧ d.showable = true ∧ d.shown.length ≤ sizeLine then some (.val (.d (.str d.shown))) else none
  | none => none
theorem ev_repr {x : Mv} : gRepr S [x] = repO (x.data S) := by
  show (x.data S).bind _ = _
  cases x.data S <;> rfl
theorem repO_some {d : PyData} (h1 : shows d = true) (h2 : d.showable = true) (h3 : d.shown.length ≤ sizeLine) : repO (some d) = some (.val (.d (.str d.shown))) := if_pos ⟨h1, h2, h3⟩
def joinO (a : Str) (o : Option (List Str)) : Option Nw := match o with
  | some ys => if (ys.map (·.length)).sum + ys.length * a.length ≤ 16777216 then some (.val (.d (.str (Txt.join a ys)))) else none
  | none => none
def jnO (a : Str) (o : Option (Bool × List Mv)) : Option Nw := match o with | some q => joinO a (strsM q.2) | none => none
theorem ev_join {a : Str} {x : Mv} : gJoin S (.d (.str a)) [x] = jnO a (x.seq S) := by
  show (x.seq S).bind _ = _
  cases x.seq S with
  | none => rfl
  | some q =>
    show (strsM q.2).bind _ = joinO a (strsM q.2)
    cases strsM q.2 <;> rfl
theorem jnO_some {a : Str} {b : Bool} {xs : List Mv} : jnO a (some (b, xs)) = joinO a (strsM xs) := rfl
theorem joinO_some {a : Str} {ys : List Str} (h : (ys.map (·.length)).sum + ys.length * a.length ≤ 16777216) : joinO a (some ys) = some (.val (.d (.str (Txt.join a ys)))) := if_pos h
/-- nothing between -/
theorem join_nil_st : ∀ ls : List (List Nat), Txt.join (st []) (ls.map st) = st ls.flatten := by
  intro ls
  rw [TL.join_eq]
  have key : ∀ ls : List (List Nat), cs (Str.join (st []) (ls.map st)) = ls.flatten := by
    intro ls
    have h := TL.tl_join (st []) (ls.map st)
    have e : TL.tl (st []) = [] := by simp [st]
    rw [e] at h
    rw [show cs (Str.join (st []) (ls.map st)) = TL.tl (Str.join (st []) (ls.map st)) from rfl, h]
    have g : ∀ ps : List (List Nat), TL.joinL [] ps = ps.flatten := by
      intro ps
      induction ps with
      | nil => rfl
      | cons p r ih =>
        cases r with
        | nil => simp [TL.joinL]
        | cons q r => rw [show TL.joinL [] (p :: q :: r) = p ++ ([] ++ TL.joinL [] (q :: r)) from rfl, ih]; simp
    rw [g, List.map_map]
    congr 1
    have : (TL.tl ∘ st) = id := by funext l; simp [st]
    rw [this, List.map_id]
  rw [← st_cs (Str.join (st []) (ls.map st)), key]
end

/-! texts by their codes: operators -/
section
variable {S : Sg}
theorem len_st {l : List Nat} (h : l.length ≤ sizeLine) : Mv.len S (.d (.str (st l))) = some l.length := by rw [len_str (by rw [st_len]; exact h), st_len]
theorem add_st {a b : List Nat} (h : a.length + b.length ≤ sizeLine) : gAdd S (.d (.str (st a))) (.d (.str (st b))) = some (.val (.d (.str (st (a ++ b))))) := by
  rw [add_str (by rw [st_len, st_len]; exact h), st_app]
theorem strRep_st {l : List Nat} {n : Nat} : strRep (st l) n = st (List.replicate n l).flatten := by simp [strRep, st]
theorem rep_len {α : Type} {n : Nat} {l : List α} : (List.replicate n l).flatten.length = n * l.length := by simp
theorem mul_st {l : List Nat} {n : Int} (h : -(2 ^ 63) ≤ n ∧ n < 2 ^ 63 ∧ n.toNat * l.length ≤ sizeLine) : gMul S (.d (.str (st l))) (.d (.int n)) = some (.val (.d (.str (st (List.replicate n.toNat l).flatten)))) := by
  rw [mul_str ⟨h.1, h.2.1, by rw [st_len, Nat.mul_comm]; exact h.2.2⟩, strRep_st]
theorem ix_st {l : List Nat} {i : Int} (h : l.length ≤ sizeLine) : gIx S (.d (.str (st l))) (.d (.int i)) = (atI l i).map fun c => .d (.str (st [c])) := by
  rw [ix_str (by rw [st_len]; exact h), show (st l).cps.toList = l from cs_st l]
  rfl
theorem sl_st {l : List Nat} {lo hi : Option Int} (h : l.length ≤ sizeLine) : gSl S (.d (.str (st l))) lo hi = some (.val (.d (.str (st (cutL l lo hi))))) := by
  rw [sl_txt (by rw [st_len]; exact h), cutS_st]; rfl
theorem rev_st {b : Bi} {l : List Nat} (h : l.length ≤ sizeLine) : kRev b (.d (.str (st l))) S = .ok (.d (.str (st l.reverse))) S := by
  rw [rev_str (by rw [st_len]; exact h), revS_st]
theorem items_st {l : List Nat} : Mv.items (.d (.str (st l))) = some (l.map fun c => .d (.str (st [c]))) := by rw [items_str, signs_st]
theorem eqv_st {a b : List Nat} : PyData.eqv (.str (st a)) (.str (st b)) = decide (a = b) := by
  rw [eqv_str]
  by_cases h : a = b
  · subst h; rw [decide_eq_true rfl]; exact beq_self_eq_true _
  · rw [decide_eq_false h]; exact beq_eq_false_iff_ne.mpr fun e => h (st_inj e)
theorem st_dec {a b : List Nat} : decide (st a = st b) = decide (a = b) := by
  by_cases h : a = b
  · subst h; rw [decide_eq_true rfl, decide_eq_true rfl]
  · rw [decide_eq_false h, decide_eq_false fun e => h (st_inj e)]
theorem ok_st {l : List Nat} (h : ∀ c ∈ l, c < 0x110000) : SeqAt.shaped (.str (st l)) = true := by
  rw [shaped_str]; exact strOk_of fun c hc => h c (by rw [cs_st] at hc; exact hc)
end
theorem flat_ones (ts : List Nat) : (ts.map fun c => [c]).flatten = ts := by
  induction ts with
  | nil => rfl
  | cons t r ih => simp [ih]
theorem join_ones (ts : List Nat) : Txt.join (st []) (ts.map fun c => st [c]) = st ts := by
  have := join_nil_st (ts.map fun c => [c])
  rw [List.map_map, flat_ones] at this
  exact this
theorem allD_mapf {α : Type} {f : α → PyData} {xs : List α} : allD (xs.map fun a => .d (f a)) = some (xs.map f) := by
  rw [show (xs.map fun a => Mv.d (f a)) = (xs.map f).map .d from by rw [List.map_map]; rfl]
  exact allD_map _
theorem strs_mapf {α : Type} {f : α → Str} {xs : List α} : strsM ((xs.map fun a => PyData.str (f a)).map .d) = some (xs.map f) := by
  rw [show (xs.map fun a => PyData.str (f a)) = (xs.map f).map .str from by rw [List.map_map]; rfl]
  exact strs_map _
theorem ints_mapf {α : Type} {f : α → Int} {xs : List α} : intsM ((xs.map fun a => PyData.int (f a)).map .d) = some (xs.map f) := by
  rw [show (xs.map fun a => PyData.int (f a)) = (xs.map f).map .int from by rw [List.map_map]; rfl]
  exact ints_map _
theorem bools_mapf {α : Type} {f : α → Bool} {xs : List α} : boolsM ((xs.map fun a => PyData.bool (f a)).map .d) = some (xs.map f) := by
  rw [show (xs.map fun a => PyData.bool (f a)) = (xs.map f).map .bool from by rw [List.map_map]; rfl]
  exact bools_map _
theorem join_ones_some {ts : List Nat} (h : ts.length ≤ 16777216) : joinO (st []) (some (ts.map fun c => st [c])) = some (.val (.d (.str (st ts)))) := by
  rw [joinO_some, join_ones]
  have : ((ts.map fun c => st [c]).map (·.length)).sum = ts.length := by
    clear h
    induction ts with
    | nil => rfl
    | cons t r ih => rw [List.map_cons, List.map_cons, List.sum_cons, ih, st_len, List.length_cons]; simp; omega
  rw [this, st_len]
  simpa using h
def slO (o : Option (List Mv)) (lo hi : Option Int) : Option Nw := match o with | some xs => some (.lst (cutL xs lo hi)) | none => none
theorem sl_own {S : Sg} {i : Nat} {lo hi : Option Int} : gSl S (.own i) lo hi = slO (Mv.isList S (.own i)) lo hi := rfl
theorem sl_ref {S : Sg} {i : Nat} {lo hi : Option Int} : gSl S (.ref i) lo hi = slO (Mv.isList S (.ref i)) lo hi := rfl
theorem sl_list {S : Sg} {xs : List PyData} {lo hi : Option Int} : gSl S (.d (.list xs)) lo hi = some (.lst ((cutL xs lo hi).map .d)) := by
  rw [← cutL_map]; rfl
theorem slO_some {lo hi : Option Int} {xs : List Mv} : slO (some xs) lo hi = some (.lst (cutL xs lo hi)) := rfl
def catO (o p : Option (List Mv)) : Option Nw := match o, p with
  | some xs, some ys => if xs.length + ys.length ≤ sizeLine then some (Nw.lst (xs ++ ys)) else none
  | _, _ => none
theorem add_own {S : Sg} {i : Nat} {y : Mv} : gAdd S (.own i) y = catO (Mv.isList S (.own i)) (Mv.isList S y) := rfl
theorem add_ref {S : Sg} {i : Nat} {y : Mv} : gAdd S (.ref i) y = catO (Mv.isList S (.ref i)) (Mv.isList S y) := rfl
theorem add_list {S : Sg} {xs : List PyData} {y : Mv} : gAdd S (.d (.list xs)) y = catO (some (xs.map .d)) (Mv.isList S y) := by
  cases y <;> rfl
theorem catO_some {xs ys : List Mv} (h : xs.length + ys.length ≤ sizeLine) : catO (some xs) (some ys) = some (.lst (xs ++ ys)) := if_pos h
/-! ### loops and comprehensions by an invariant -/
section
variable {ρ : Rho} {S : Sg}
theorem lc_mapF {α : Type} {g : MG} {te : ME} {h k : α → Mv} : ∀ {l : List α} {acc : List Mv}, (∀ a ∈ l, ∃ ρ1, g S (h a) ρ = some ρ1 ∧ te ρ1 S = .ok (k a) S ∧ (k a).free = true) → acc.length + l.length ≤ sizeLine → lcLoop g mYes te ρ (l.map h) acc S = .ok (acc ++ l.map k) S
  | [], acc, _, _ => by rw [List.map_nil, lc_nil, List.map_nil, List.append_nil]
  | a :: l, acc, hh, hl => by
    obtain ⟨ρ1, h1, h2, h3⟩ := hh a (List.mem_cons_self ..)
    rw [List.length_cons] at hl
    rw [List.map_cons, lc_yes h1 h2 h3 (by omega), lc_mapF (fun y hy => hh y (List.mem_cons_of_mem _ hy)) (by rw [List.length_append, List.length_singleton]; omega), List.map_cons, List.append_assoc]
    rfl
/-- what each turn does to the store is told by P, its items by R -/
theorem lc_ex {g : MG} {te : ME} {P : Sg → Prop} {R : Mv → Prop} : ∀ {xs acc : List Mv} {S : Sg}, (∀ x ∈ xs, ∀ S, P S → ∃ ρ1 y S2, g S x ρ = some ρ1 ∧ te ρ1 S = .ok y S2 ∧ y.free = true ∧ R y ∧ P S2) → P S → acc.length + xs.length ≤ sizeLine →
    ∃ ys S2, lcLoop g mYes te ρ xs acc S = .ok (acc ++ ys) S2 ∧ ys.length = xs.length ∧ (∀ y ∈ ys, R y) ∧ P S2
  | [], acc, S, _, hp, _ => ⟨[], S, by rw [lc_nil, List.append_nil], rfl, fun _ h => (nomatch h), hp⟩
  | x :: xs, acc, S, hh, hp, hl => by
    obtain ⟨ρ1, y, S1, h1, h2, h3, h4, h5⟩ := hh x (List.mem_cons_self ..) S hp
    rw [List.length_cons] at hl
    obtain ⟨ys, S2, e, e1, e2, e3⟩ := lc_ex (acc := acc ++ [y]) (fun z hz => hh z (List.mem_cons_of_mem _ hz)) h5 (by rw [List.length_append, List.length_singleton]; omega)
    refine ⟨y :: ys, S2, ?_, by simp [e1], fun z hz => ?_, e3⟩
    · rw [lc_yes h1 h2 h3 (by omega), e, List.append_assoc]; rfl
    · rcases List.mem_cons.mp hz with rfl | hz
      · exact h4
      · exact e2 z hz
theorem loop_ex {g : MG} {b : MS} {P : Rho → Sg → Prop} : ∀ {xs : List Mv} {ρ : Rho} {S : Sg}, (∀ x ∈ xs, ∀ ρ S, P ρ S → ∃ ρ1 ρ2 S2, g S x ρ = some ρ1 ∧ b ρ1 S = .nx ρ2 S2 ∧ P ρ2 S2) → P ρ S → ∃ ρ2 S2, mLoop g b xs ρ S = .nx ρ2 S2 ∧ P ρ2 S2
  | [], ρ, S, _, hp => ⟨ρ, S, rfl, hp⟩
  | x :: xs, ρ, S, hh, hp => by
    obtain ⟨ρ1, ρ2, S2, h1, h2, h3⟩ := hh x (List.mem_cons_self ..) ρ S hp
    obtain ⟨ρ3, S3, e, e1⟩ := loop_ex (fun z hz => hh z (List.mem_cons_of_mem _ hz)) h3
    exact ⟨ρ3, S3, by rw [loop_on h1 h2, e], e1⟩
/-- a loop that folds a state σ -/
theorem loop_fold {α β : Type} {g : MG} {b : MS} {h : α → Mv} {f : β → α → β} {R : β → Rho} {I : β → Prop} : ∀ {l : List α} {s : β}, (∀ a ∈ l, ∀ s, I s → ∃ ρ1, g S (h a) (R s) = some ρ1 ∧ ∀ x, b ρ1 S = x → x = .nx (R (f s a)) S) → (∀ a ∈ l, ∀ s, I s → I (f s a)) → I s → mLoop g b (l.map h) (R s) S = .nx (R (l.foldl f s)) S
  | [], s, _, _, _ => rfl
  | a :: l, s, hh, hi, hs => by
    obtain ⟨ρ1, h1, h2⟩ := hh a (List.mem_cons_self ..) s hs
    rw [List.map_cons, loop_on h1 (h2 _ rfl)]
    exact loop_fold (fun y hy => hh y (List.mem_cons_of_mem _ hy)) (fun y hy => hi y (List.mem_cons_of_mem _ hy)) (hi a (List.mem_cons_self ..) s hs)
/-- turns that are counted -/
theorem loop_exN {ρ : Rho} {S : Sg} {g : MG} {b : MS} {N : Nat} {P : Nat → Rho → Sg → Prop} : ∀ {xs : List Mv} {i : Nat} {ρ : Rho} {S : Sg}, (∀ x ∈ xs, ∀ i < N, ∀ ρ S, P i ρ S → ∃ ρ1 ρ2 S2, g S x ρ = some ρ1 ∧ b ρ1 S = .nx ρ2 S2 ∧ P (i + 1) ρ2 S2) → P i ρ S → i + xs.length ≤ N → ∃ ρ2 S2, mLoop g b xs ρ S = .nx ρ2 S2 ∧ P (i + xs.length) ρ2 S2
  | [], i, ρ, S, _, hp, _ => ⟨ρ, S, rfl, hp⟩
  | x :: xs, i, ρ, S, hh, hp, hi => by
    rw [List.length_cons] at hi
    obtain ⟨ρ1, ρ2, S2, h1, h2, h3⟩ := hh x (List.mem_cons_self ..) i (by omega) ρ S hp
    obtain ⟨ρ3, S3, e, e1⟩ := loop_exN (ρ := ρ) (S := S) (fun z hz => hh z (List.mem_cons_of_mem _ hz)) h3 (by omega)
    exact ⟨ρ3, S3, by rw [loop_on h1 h2, e], by rw [List.length_cons, Nat.add_comm xs.length 1, ← Nat.add_assoc]; exact e1⟩
theorem pick_all {α : Type} {p : α → Prop} {h : α → Mv} : ∀ {ys : List Mv}, (∀ y ∈ ys, ∃ a, p a ∧ y = h a) → ∃ as : List α, ys = as.map h ∧ ∀ a ∈ as, p a
  | [], _ => ⟨[], rfl, fun _ h => (nomatch h)⟩
  | y :: ys, hh => by
    obtain ⟨as, e, h2⟩ := pick_all fun z hz => hh z (List.mem_cons_of_mem _ hz)
    obtain ⟨a, ha, e1⟩ := hh y (List.mem_cons_self ..)
    exact ⟨a :: as, by rw [e, e1]; rfl, fun z hz => by
      rcases List.mem_cons.mp hz with rfl | hz
      · exact ha
      · exact h2 z hz⟩
theorem atI_mem {α : Type} {xs : List α} {i : Int} (h0 : 0 ≤ i) (h1 : i < xs.length) : ∃ x ∈ xs, atI xs i = some x := by
  have hi : i.toNat < xs.length := by omega
  exact ⟨xs[i.toNat], List.getElem_mem hi, by rw [atI_nat h0 h1, List.getElem?_eq_getElem hi]⟩
end
end MM.Q
end
section
set_option Elab.async false
set_option linter.all false
set_option maxRecDepth 100000
set_option maxHeartbeats 4000000
set_option autoImplicit false
namespace MM.Q
open PySem PySem.Spec PyProof.Rows L2 MM
section
variable {ρ : Rho} {S : Sg}
theorem mg_tupL {n : Nat} {g : MGs} {xs : List PyData} (h : (xs.map Mv.d).length = n) : mgTup n g S (.d (.list xs)) ρ = g S (xs.map .d) ρ := if_pos h
/-! chains -/
def k3Ch (g' : Sg → Mv → Mv → Option Nw) (y : Mv) : Mv → Sg → Res Mv := fun z S => bearO .ref (g' S y z) S
def k2Ch (g g' : Sg → Mv → Mv → Option Nw) (c : ME) (ρ : Rho) (x : Mv) : Mv → Sg → Res Mv := fun y S => chF g' c ρ y S (g S x y)
def k1Ch (g g' : Sg → Mv → Mv → Option Nw) (b c : ME) (ρ : Rho) : Mv → Sg → Res Mv := fun x S => (b ρ S).bind (k2Ch g g' c ρ x)
variable {g g' : Sg → Mv → Mv → Option Nw} {a b c : ME} {x y z : Mv}
theorem ev_ch : mChain g g' a b c ρ S = (a ρ S).bind (k1Ch g g' b c ρ) := rfl
theorem ev_ch1 : k1Ch g g' b c ρ x S = (b ρ S).bind (k2Ch g g' c ρ x) := rfl
theorem ev_ch2 : k2Ch g g' c ρ x y S = chF g' c ρ y S (g S x y) := rfl
theorem ch_t : chF g' c ρ y S (some (.val (.d (.bool true)))) = (c ρ S).bind (k3Ch g' y) := rfl
theorem ch_f : chF g' c ρ y S (some (.val (.d (.bool false)))) = .ok (.d (.bool false)) S := rfl
theorem ev_ch3 : k3Ch g' y z S = bearO .ref (g' S y z) S := rfl
/-! texts' methods -/
theorem starts_str {i j : Str} : gStarts S (.d (.str i)) [.d (.str j)] = some (.val (.d (.bool (Txt.startswith i j)))) := rfl
theorem ends_str {i j : Str} : gEnds S (.d (.str i)) [.d (.str j)] = some (.val (.d (.bool (Txt.endswith i j)))) := rfl
theorem upper_str {i : Str} (h : i.length ≤ 5592405) : gUpper S (.d (.str i)) [] = some (.val (.d (.str (Txt.upper i)))) := if_pos h
theorem part_str {i j : Str} (h : (j.length == 0) = false ∧ i.length ≤ sizeLine) : gPart S (.d (.str i)) [.d (.str j)] = some (.tup [.d (.str (Txt.partition i j).1), .d (.str (Txt.partition i j).2.1), .d (.str (Txt.partition i j).2.2)]) := if_pos h
/-! f-strings -/
def kFmt (x : Mv) (S : Sg) : Res Mv := match x with
  | .d (.str y) => if y.length ≤ sizeLine then .ok (.d (.str y)) S else .bad
  | .d (.int i) => if i.natAbs.log2 < 1920 then .ok (.d (.str (toString i))) S else .bad
  | _ => .bad
def kFmtR (x : Mv) (S : Sg) : Res Mv := match x with
  | .d (.str y) => if (reprText y).length ≤ sizeLine then .ok (.d (.str (reprText y))) S else .bad
  | .d (.int i) => if i.natAbs.log2 < 1920 then .ok (.d (.str (toString i))) S else .bad
  | _ => .bad
theorem ev_fmt {m : ME} : mFmt m ρ S = (m ρ S).bind kFmt := by
  unfold mFmt
  congr 1
theorem ev_fmtR {m : ME} : mFmtR m ρ S = (m ρ S).bind kFmtR := by
  unfold mFmtR
  congr 1
theorem fmt_str {i : Str} (h : i.length ≤ sizeLine) : kFmt (.d (.str i)) S = .ok (.d (.str i)) S := if_pos h
theorem fmt_st {l : List Nat} (h : l.length ≤ sizeLine) : kFmt (.d (.str (st l))) S = .ok (.d (.str (st l))) S := fmt_str (by rw [st_len]; exact h)
theorem fmt_int {i : Int} (h : i.natAbs.log2 < 1920) : kFmt (.d (.int i)) S = .ok (.d (.str (toString i))) S := if_pos h
def k2Js (ms : List ME) (ρ : Rho) : Str → Sg → Res Mv := fun z S => mJs ms z ρ S
def k1Js (ms : List ME) (acc : Str) (ρ : Rho) : Mv → Sg → Res Mv := fun x S => jsF (jsS acc x) S (k2Js ms ρ)
theorem ev_js_nil {acc : Str} : mJs [] acc ρ S = .ok (.d (.str acc)) S := rfl
theorem ev_js_cons {m : ME} {ms : List ME} {acc : Str} : mJs (m :: ms) acc ρ S = (m ρ S).bind (k1Js ms acc ρ) := rfl
theorem ev_js1 {ms : List ME} {acc : Str} {x : Mv} : k1Js ms acc ρ x S = jsF (jsS acc x) S (k2Js ms ρ) := rfl
theorem ev_js2 {ms : List ME} {acc : Str} : k2Js ms ρ acc S = mJs ms acc ρ S := rfl
theorem jsF_some {z : Str} {f : Str → Sg → Res Mv} : jsF (some z) S f = f z S := rfl
theorem empty_st : Str.empty = st [] := rfl
theorem js_st {i j : List Nat} (h : i.length + j.length ≤ sizeLine) : jsS (st i) (.d (.str (st j))) = some (st (i ++ j)) := by
  show (if (st i ++ st j).length ≤ sizeLine then some (st i ++ st j) else none) = _
  rw [st_app]
  exact if_pos (by rw [st_len, List.length_append]; exact h)
/-! dicts -/
def k3Pr (x y : Mv) : List (Mv × Mv) → Sg → Res (List (Mv × Mv)) := fun ps S => .ok ((x, y) :: ps) S
def k2Pr (r : List (ME × ME)) (ρ : Rho) (x : Mv) : Mv → Sg → Res (List (Mv × Mv)) := fun y S => (mPairs r ρ S).bind (k3Pr x y)
def k1Pr (b : ME) (r : List (ME × ME)) (ρ : Rho) : Mv → Sg → Res (List (Mv × Mv)) := fun x S => (b ρ S).bind (k2Pr r ρ x)
theorem ev_pr_nil : mPairs [] ρ S = .ok [] S := rfl
theorem ev_pr_cons {r : List (ME × ME)} : mPairs ((a, b) :: r) ρ S = (a ρ S).bind (k1Pr b r ρ) := rfl
theorem ev_pr1 {r : List (ME × ME)} : k1Pr b r ρ x S = (b ρ S).bind (k2Pr r ρ x) := rfl
theorem ev_pr2 {r : List (ME × ME)} : k2Pr r ρ x y S = (mPairs r ρ S).bind (k3Pr x y) := rfl
theorem ev_pr3 {ps : List (Mv × Mv)} : k3Pr x y ps S = .ok ((x, y) :: ps) S := rfl
def kDct : List (Mv × Mv) → Sg → Res Mv := fun qs S => dctF S (keysM qs)
theorem ev_dct {ps : List (ME × ME)} : mDct ps ρ S = (mPairs ps ρ S).bind kDct := rfl
theorem ev_dct1 {qs : List (Mv × Mv)} : kDct qs S = dctF S (keysM qs) := rfl
theorem keys_one {k : Str} {d : PyData} : keysM [(.d (.str k), .d d)] = some [(.inr k, d)] := rfl
theorem dctF_one {k : Str} {d : PyData} : dctF S (some [(.inr k, d)]) = .ok (.d (.dict [(.str k, d)])) S := rfl
/-! tuples of lists, of texts -/
theorem tup_list {xs : List PyData} : gTuple S [.d (.list xs)] = some (.tup (xs.map .d)) := rfl
theorem tup_tup {xs : List PyData} : gTuple S [.d (.tuple xs)] = some (.val (.d (.tuple xs))) := rfl
theorem tup_str {i : Str} (h : i.length ≤ sizeLine) : gTuple S [.d (.str i)] = some (.tup (signs i)) := if_pos h
theorem tup_st {l : List Nat} (h : l.length ≤ sizeLine) : gTuple S [.d (.str (st l))] = some (.tup (l.map fun c => .d (.str (st [c])))) := by rw [tup_str (by rw [st_len]; exact h), signs_st]
theorem lst_st {l : List Nat} (h : l.length ≤ sizeLine) : gList S [.d (.str (st l))] = some (.lst (l.map fun c => .d (.str (st [c])))) := by rw [lst_str (by rw [st_len]; exact h), signs_st]
/-! so many times -/
theorem mul_list {xs : List PyData} {k : Int} (h : -(2 ^ 63) ≤ k ∧ k < 2 ^ 63 ∧ xs.length * k.toNat ≤ sizeLine) : gMul S (.d (.list xs)) (.d (.int k)) = some (.lst ((List.replicate k.toNat xs).flatten.map .d)) := by
  show repSq S (.d (.list xs)) k = _
  unfold repSq
  show (if -(2 ^ 63) ≤ k ∧ k < 2 ^ 63 ∧ (xs.map Mv.d).length * k.toNat ≤ sizeLine then some (Nw.lst (List.replicate k.toNat (xs.map Mv.d)).flatten) else none) = _
  rw [List.length_map, if_pos h, List.map_flatten, List.map_replicate]
theorem mul_tup {xs : List PyData} {k : Int} (h : xs ≠ [] ∧ 2 ≤ k ∧ k ≤ 1000 ∧ xs.length ≤ 1000) : gMul S (.d (.tuple xs)) (.d (.int k)) = some (.tup ((List.replicate k.toNat xs).flatten.map .d)) := by
  show repSq S (.d (.tuple xs)) k = _
  unfold repSq
  show (if (xs.map Mv.d) ≠ [] ∧ 2 ≤ k ∧ k ≤ 1000 ∧ (xs.map Mv.d).length ≤ 1000 then some (Nw.tup (List.replicate k.toNat (xs.map Mv.d)).flatten) else none) = _
  rw [List.length_map, if_pos ⟨fun e => h.1 (List.map_eq_nil_iff.mp e), h.2⟩, List.map_flatten, List.map_replicate]
/-! pop at a place -/
def popK (o : Option (Nat × Bool × Mo)) (k : Int) (S : Sg) : Option (Mv × Sg) := match o with
  | some (i, b, .lst zs) => if -(2 ^ 63) ≤ k ∧ k < 2 ^ 63 then (seqIndex? k zs.length).bind fun j => (zs[j]?).map fun y => (y, S.set i (b, .lst (zs.eraseIdx j))) else none
  | _ => none
theorem ev_popK {k : Int} : uPop S x [.d (.int k)] = popK (x.cell S) k S := rfl
theorem popK_some {i : Nat} {b : Bool} {zs : List Mv} {k : Int} {y : Mv} (h0 : 0 ≤ k) (h1 : k < zs.length) (h2 : zs.length ≤ 1000000) (hy : zs[k.toNat]? = some y) : popK (some (i, b, .lst zs)) k S = some (y, S.set i (b, .lst (zs.eraseIdx k.toNat))) := by
  unfold popK
  simp only
  rw [if_pos ⟨by omega, by omega⟩]
  have e : seqIndex? k zs.length = some k.toNat := by
    have n1 : ¬ k < 0 := by omega
    have c1 : (decide (0 ≤ k) && decide (k < (zs.length : Int))) = true := by simp [h0, h1]
    show (if (decide (0 ≤ (if k < 0 then k + zs.length else k)) && decide ((if k < 0 then k + zs.length else k) < (zs.length : Int))) = true then some (if k < 0 then k + zs.length else k).toNat else none) = _
    rw [if_neg n1, if_pos c1]
  rw [e]
  simp [hy]
/-! in lists -/
def inO (neg : Bool) (d : Option PyData) (o : Option PyData) : Option Nw := match d, o with
  | some d, some (.list ds) => if SeqAt.shaped d = true ∧ SeqAt.shaped (.list ds) = true then some (.val (.d (.bool (if neg then !ds.any (fun z => PyData.eqv z d) else ds.any (fun z => PyData.eqv z d))))) else none
  | _, _ => none
theorem in_own {neg : Bool} {i : Nat} : gInN neg S x (.own i) = inO neg (x.data S) (Mv.data S (.own i)) := by
  unfold gInN inO
  split
  · rename_i h; cases h
  · rfl
theorem in_ref {neg : Bool} {i : Nat} : gInN neg S x (.ref i) = inO neg (x.data S) (Mv.data S (.ref i)) := by
  unfold gInN inO
  split
  · rename_i h; cases h
  · rfl
theorem in_list {neg : Bool} {xs : List PyData} : gInN neg S x (.d (.list xs)) = inO neg (x.data S) (some (.list xs)) := by
  unfold gInN inO
  split
  · rename_i h; cases h
  · rfl
theorem inO_t {d : PyData} {ds : List PyData} (h1 : SeqAt.shaped d = true) (h2 : SeqAt.shaped (.list ds) = true) : inO true (some d) (some (.list ds)) = some (.val (.d (.bool (!ds.any (fun z => PyData.eqv z d))))) := if_pos ⟨h1, h2⟩
theorem inO_f {d : PyData} {ds : List PyData} (h1 : SeqAt.shaped d = true) (h2 : SeqAt.shaped (.list ds) = true) : inO false (some d) (some (.list ds)) = some (.val (.d (.bool (ds.any (fun z => PyData.eqv z d))))) := if_pos ⟨h1, h2⟩
theorem shaped_strs {ls : List (List Nat)} (h : ∀ l ∈ ls, ∀ c ∈ l, c < 0x110000) : SeqAt.shaped (.list (ls.map fun l => .str (st l))) = true ∧ SeqAt.shaped (.tuple (ls.map fun l => .str (st l))) = true := by
  have key : ∀ x ∈ (ls.map fun l => PyData.str (st l)), x.canLay0 = true ∧ x.depth = 0 := by
    intro x hx
    obtain ⟨l, hl, rfl⟩ := List.mem_map.mp hx
    have := ok_st (h l hl)
    rw [shaped_str] at this
    exact ⟨by simpa [PyData.canLay0] using this, rfl⟩
  exact shaped_flat key
theorem any_strs {ls : List (List Nat)} {l : List Nat} : ((ls.map fun l => PyData.str (st l)).any fun z => PyData.eqv z (.str (st l))) = decide (l ∈ ls) := by
  induction ls with
  | nil => simp
  | cons a r ih =>
    rw [List.map_cons, List.any_cons, ih, eqv_st]
    by_cases e : a = l
    · subst e; simp
    · have : ¬ l = a := fun h => e h.symm
      simp [e, this]
theorem lc_filterF {α : Type} {g : MG} {tt : MT} {te : ME} {h k : α → Mv} {p : α → Bool} : ∀ {l : List α} {acc : List Mv}, (∀ a ∈ l, ∃ ρ1, g S (h a) ρ = some ρ1 ∧ tt ρ1 S = .ok (p a) S ∧ (p a = true → te ρ1 S = .ok (k a) S ∧ (k a).free = true)) → acc.length + l.length ≤ sizeLine → lcLoop g tt te ρ (l.map h) acc S = .ok (acc ++ (l.filter p).map k) S
  | [], acc, _, _ => by rw [List.map_nil, lc_nil, List.filter_nil, List.map_nil, List.append_nil]
  | a :: l, acc, hh, hl => by
    obtain ⟨ρ1, h1, h2, h3⟩ := hh a (List.mem_cons_self ..)
    rw [List.length_cons] at hl
    have ih := fun acc (hz : acc.length + l.length ≤ sizeLine) => lc_filterF (acc := acc) (fun y hy => hh y (List.mem_cons_of_mem _ hy)) hz
    cases e : p a with
    | true =>
      rw [e] at h2
      obtain ⟨h4, h5⟩ := h3 e
      rw [List.map_cons, lc_in h1 h2 h4 h5 (by omega), ih _ (by rw [List.length_append, List.length_singleton]; omega), List.filter_cons_of_pos e, List.map_cons, List.append_assoc]
      rfl
    | false =>
      rw [e] at h2
      rw [List.map_cons, lc_out h1 h2, ih _ (by omega), List.filter_cons_of_neg (by simp [e])]
theorem all_map_id {α : Type} {f : α → Bool} {l : List α} : (l.map f).all id = l.all f := by induction l <;> simp_all
theorem filter_not_empty {α : Type} {p : α → Bool} {l : List α} : (l.filter fun a => !p a).isEmpty = l.all p := by
  induction l with
  | nil => rfl
  | cons a r ih =>
    rw [List.all_cons, ← ih]
    cases e : p a
    · rw [List.filter_cons_of_pos (by simp [e])]; rfl
    · rw [List.filter_cons_of_neg (by simp [e])]; rfl
theorem sub_st {l : List Nat} {c i : Nat} : Builtin.Str.subAt (st l) (st [c]) i = decide ((l.drop i).take 1 = [c]) := by
  unfold Builtin.Str.subAt
  show (l.toArray.extract i (i + [c].length) == #[c]) = _
  rw [show [c].length = 1 from rfl]
  by_cases h : (l.drop i).take 1 = [c]
  · rw [decide_eq_true h]
    refine beq_iff_eq.mpr (Array.toList_inj.mp ?_)
    simp [List.extract_eq_take_drop]
    exact h
  · rw [decide_eq_false h]
    refine beq_eq_false_iff_ne.mpr fun e => h ?_
    have := congrArg Array.toList e
    simp [List.extract_eq_take_drop] at this
    exact this
theorem starts_one {l : List Nat} {c : Nat} : Txt.startswith (st l) (st [c]) = decide (l.take 1 = [c]) := by
  unfold Txt.startswith
  rw [sub_st, st_len, st_len, List.drop_zero]
  cases l <;> simp
theorem ends_one {l : List Nat} {c : Nat} : Txt.endswith (st l) (st [c]) = decide (l.drop (l.length - 1) = [c]) := by
  unfold Txt.endswith
  rw [sub_st, st_len, st_len, List.length_singleton]
  have e : (l.drop (l.length - 1)).take 1 = l.drop (l.length - 1) := List.take_of_length_le (by rw [List.length_drop]; omega)
  rw [e]
  cases l with
  | nil => simp
  | cons a r =>
    rw [show (decide (0 + 1 ≤ (a :: r).length)) = true from decide_eq_true (by rw [List.length_cons]; omega), Bool.true_and]
theorem cutL_last {α : Type} {l : List α} : cutL l (some (-1)) none = l.drop (l.length - 1) := by
  unfold cutL
  rw [HT.sIx_none]
  have e : HT.sIx l.length 0 (some (-1)) = l.length - 1 := by
    show (if (-1 : Int) < 0 then (-1 + (l.length : Int)).toNat else min (Int.toNat (-1)) l.length) = _
    rw [if_pos (by decide)]
    omega
  rw [e]
  exact List.take_of_length_le (by rw [List.length_drop]; omega)
theorem cutL_one {α : Type} {l : List α} : cutL l none (some 1) = l.take 1 := cutL_to (k := 1)
theorem cutL_ab {α : Type} {l : List α} {a b : Nat} (h : b ≤ l.length) (h2 : a ≤ b) : cutL l (some (a : Int)) (some (b : Int)) = (l.drop a).take (b - a) := by
  unfold cutL
  rw [HT.sIx_nat, HT.sIx_nat, Nat.min_eq_left h, Nat.min_eq_left (by omega)]
theorem cutL_neg1 {α : Type} {l : List α} {a : Nat} (h : a ≤ l.length) : cutL l (some (a : Int)) (some (-1)) = (l.drop a).take (l.length - 1 - a) := by
  unfold cutL
  have e : HT.sIx l.length l.length (some (-1)) = l.length - 1 := by
    show (if (-1 : Int) < 0 then (-1 + (l.length : Int)).toNat else min (Int.toNat (-1)) l.length) = _
    rw [if_pos (by decide)]
    omega
  rw [HT.sIx_nat, Nat.min_eq_left h, e]
theorem seq_of {a b : MS} {ρ1 : Rho} {S1 : Sg} (h : a ρ S = .nx ρ1 S1) : mSeq a b ρ S = b ρ1 S1 := by rw [ev_seq, h]; rfl
/-- a walk over 0 .. n-1 -/
theorem loop_rg {g : MG} {b : MS} {n : Nat} {P : Nat → Rho → Sg → Prop} (h : ∀ i < n, ∀ ρ S, P i ρ S → ∃ ρ1 ρ2 S2, g S (.d (.int (i : Nat))) ρ = some ρ1 ∧ b ρ1 S = .nx ρ2 S2 ∧ P (i + 1) ρ2 S2) : ∀ (k i : Nat) (ρ : Rho) (S : Sg), i + k = n → P i ρ S → ∃ ρ2 S2, mLoop g b ((List.range' i k).map fun j : Nat => .d (.int (0 + (j : Int)))) ρ S = .nx ρ2 S2 ∧ P n ρ2 S2
  | 0, i, ρ, S, e, hp => ⟨ρ, S, rfl, by rw [← e]; exact hp⟩
  | k + 1, i, ρ, S, e, hp => by
    obtain ⟨ρ1, ρ2, S2, h1, h2, h3⟩ := h i (by omega) ρ S hp
    obtain ⟨ρ3, S3, e3, h4⟩ := loop_rg h k (i + 1) ρ2 S2 (by omega) h3
    refine ⟨ρ3, S3, ?_, h4⟩
    rw [List.range'_succ, List.map_cons, loop_on (ρ1 := ρ1) (by rw [Int.zero_add]; exact h1) h2]
    exact e3
theorem loop_range {g : MG} {b : MS} {n : Nat} {P : Nat → Rho → Sg → Prop} (h : ∀ i < n, ∀ ρ S, P i ρ S → ∃ ρ1 ρ2 S2, g S (.d (.int (i : Nat))) ρ = some ρ1 ∧ b ρ1 S = .nx ρ2 S2 ∧ P (i + 1) ρ2 S2) (hp : P 0 ρ S) : ∃ ρ2 S2, mLoop g b (rangeL 0 n) ρ S = .nx ρ2 S2 ∧ P n ρ2 S2 := by
  unfold rangeL
  rw [List.range_eq_range']
  exact loop_rg h n 0 ρ S (by omega) hp
/-- a comprehension told by what it has so far -/
theorem lc_acc {g : MG} {te : ME} {N : Nat} {P : List Mv → Sg → Prop} : ∀ {xs acc : List Mv} {S : Sg}, (∀ x ∈ xs, ∀ acc S, acc.length < N → P acc S → ∃ ρ1 y S2, g S x ρ = some ρ1 ∧ te ρ1 S = .ok y S2 ∧ y.free = true ∧ P (acc ++ [y]) S2) → P acc S → acc.length + xs.length = N → N ≤ sizeLine →
    ∃ ys S2, lcLoop g mYes te ρ xs acc S = .ok ys S2 ∧ ys.length = N ∧ P ys S2
  | [], acc, S, _, hp, hN, _ => ⟨acc, S, rfl, by simpa using hN, hp⟩
  | x :: xs, acc, S, hh, hp, hN, hl => by
    rw [List.length_cons] at hN
    obtain ⟨ρ1, y, S1, h1, h2, h3, h4⟩ := hh x (List.mem_cons_self ..) acc S (by omega) hp
    obtain ⟨ys, S2, e, e1, e2⟩ := lc_acc (acc := acc ++ [y]) (fun z hz => hh z (List.mem_cons_of_mem _ hz)) h4 (by rw [List.length_append, List.length_singleton]; omega) hl
    exact ⟨ys, S2, by rw [lc_yes h1 h2 h3 (by omega), e], e1, e2⟩
theorem upper_st {l : List Nat} (h : ∀ c ∈ l, c < 128) : Txt.upper (st l) = st (l.map PyProof.Rows.up1) :=
  SX.upper_S (List.all_eq_true.mpr fun c hc => decide_eq_true (h c hc))
end
end MM.Q
end
section
set_option Elab.async false
set_option linter.all false
set_option maxRecDepth 100000
set_option maxHeartbeats 4000000
set_option autoImplicit false
/-! MEval3: how the mirrors of int, enumerate, sets, sorted answer. -/
namespace MM.Q
open PySem PySem.Spec PyProof.Rows L2 MM
section
variable {S : Sg} {ρ : Rho}
/-! ### int(x) -/
def b2i (k : Bool) : Int := if k then 1 else 0
theorem b2i_t : b2i true = 1 := rfl
theorem b2i_f : b2i false = 0 := rfl
theorem int_int {i : Int} : gInt S [.d (.int i)] = some (.val (.d (.int i))) := rfl
theorem int_bool {k : Bool} : gInt S [.d (.bool k)] = some (.val (.d (.int (b2i k)))) := rfl
/-! ### enumerate -/
def kEn : List Mv → Sg → Res (List Mv) := fun xs S => match xs with
  | [x] => (match x.itemsD with | some ds => .ok (numL ds) S | none => .bad)
  | _ => .bad
theorem ev_en {a : MA} : mEnum a ρ S = (a ρ S).bind kEn := rfl
theorem en_list {xs : List PyData} : kEn [.d (.list xs)] S = .ok (numL xs) S := rfl
theorem en_tup {xs : List PyData} : kEn [.d (.tuple xs)] S = .ok (numL xs) S := rfl
theorem numL_map {α : Type} {f : α → PyData} {l : List α} : numL (l.map f) = l.zipIdx.map fun p => .d (.tuple [.int (p.2 : Nat), f p.1]) := by
  unfold numL
  rw [List.zipIdx_map, List.map_map]
  rfl
theorem en_st {l : List Nat} : kEn [.d (.str (st l))] S = .ok (l.zipIdx.map fun p => .d (.tuple [.int (p.2 : Nat), .str (st [p.1])])) S := by
  show Res.ok (numL ((st l).cps.toList.map fun c => .str ⟨#[c]⟩)) S = _
  rw [numL_map]
  rfl
/-! ### range(i, j) -/
noncomputable def kRg2 : List Mv → Sg → Res (List Mv) := fun xs S => match xs with | [.d (.int i), .d (.int j)] => @ite _ (-(2 ^ 62) ≤ i ∧ i < 2 ^ 62 ∧ -(2 ^ 62) ≤ j ∧ j < 2 ^ 62) (Classical.propDecidable _) (.ok (rangeL i (j - i).toNat) S) .bad | _ => .bad
theorem ev_rg2 {a : MA} : mRange2 a ρ S = (a ρ S).bind kRg2 := rfl
theorem rg2_int {i j : Int} (h : -(2 ^ 62) ≤ i ∧ i < 2 ^ 62 ∧ -(2 ^ 62) ≤ j ∧ j < 2 ^ 62) : kRg2 [.d (.int i), .d (.int j)] S = .ok (rangeL i (j - i).toNat) S := if_pos h
/-! ### sets of texts -/
def K (l : List Nat) : Key := .inr (st l)
theorem K_inj {a b : List Nat} (h : K a = K b) : a = b := st_inj (Sum.inr.inj h)
def addL (acc : List (List Nat)) (l : List Nat) : List (List Nat) := if l ∈ acc then acc else acc ++ [l]
def uniq : List (List Nat) → List (List Nat) → List (List Nat)
  | acc, [] => acc
  | acc, l :: r => uniq (addL acc l) r
theorem addK_K {acc : List (List Nat)} {l : List Nat} : addK (acc.map K) (K l) = (addL acc l).map K := by
  unfold addK addL
  by_cases h : l ∈ acc
  · rw [if_pos h, if_pos (any_mem.mpr (List.mem_map_of_mem h))]
  · rw [if_neg h, if_neg (fun z => h ?_), List.map_append]
    · rfl
    · obtain ⟨x, hx, e⟩ := List.mem_map.mp (any_mem.mp z)
      rw [← K_inj e]; exact hx
theorem keysOf_K {acc L : List (List Nat)} : keysOf (acc.map K) (L.map K) = (uniq acc L).map K := by
  induction L generalizing acc with
  | nil => rfl
  | cons l r ih =>
    show keysOf (addK (acc.map K) (K l)) (r.map K) = _
    rw [addK_K, ih]; rfl
theorem addL_mem {acc : List (List Nat)} {l x : List Nat} : x ∈ addL acc l ↔ x ∈ acc ∨ x = l := by
  unfold addL
  split
  · rename_i h
    exact ⟨Or.inl, fun q => q.elim id fun e => e ▸ h⟩
  · simp
theorem uniq_mem {acc L : List (List Nat)} {x : List Nat} : x ∈ uniq acc L ↔ x ∈ acc ∨ x ∈ L := by
  induction L generalizing acc with
  | nil => simp [uniq]
  | cons l r ih =>
    show x ∈ uniq (addL acc l) r ↔ _
    rw [ih, addL_mem, List.mem_cons, or_assoc]
theorem addL_nodup {acc : List (List Nat)} {l : List Nat} (h : acc.Nodup) : (addL acc l).Nodup := by
  unfold addL
  split
  · exact h
  · rename_i n
    rw [List.nodup_append]
    refine ⟨h, by simp, fun a ha b hb e => ?_⟩
    rw [List.mem_singleton.mp hb] at e
    exact n (e ▸ ha)
theorem uniq_nodup {acc L : List (List Nat)} (h : acc.Nodup) : (uniq acc L).Nodup := by
  induction L generalizing acc with
  | nil => exact h
  | cons l r ih => exact ih (addL_nodup h)
theorem addL_len {acc : List (List Nat)} {l : List Nat} : (addL acc l).length ≤ acc.length + 1 := by
  unfold addL; split <;> simp
theorem uniq_len {acc L : List (List Nat)} : (uniq acc L).length ≤ acc.length + L.length := by
  induction L generalizing acc with
  | nil => exact Nat.le_refl _
  | cons l r ih =>
    have := @ih (addL acc l)
    have := @addL_len acc l
    rw [List.length_cons]
    show (uniq (addL acc l) r).length ≤ _
    omega
def codes : PyData → List Nat
  | .str z => cs z
  | _ => []
noncomputable def srt (L : List (List Nat)) : List (List Nat) := (sortD (L.map fun l => .str (st l))).map codes
theorem srt_data {L : List (List Nat)} : sortD (L.map fun l => .str (st l)) = (srt L).map fun l => .str (st l) := by
  unfold srt
  rw [List.map_map]
  symm
  conv => rhs; rw [← List.map_id (sortD _)]
  refine List.map_congr_left fun d hd => ?_
  obtain ⟨l, _, rfl⟩ := List.mem_map.mp (sortD_mem.mp hd)
  simp [codes, cs_st]
theorem srt_mem {L : List (List Nat)} {x : List Nat} : x ∈ srt L ↔ x ∈ L := by
  unfold srt
  constructor
  · intro h
    obtain ⟨d, hd, rfl⟩ := List.mem_map.mp h
    obtain ⟨l, hl, rfl⟩ := List.mem_map.mp (sortD_mem.mp hd)
    simpa [codes, cs_st] using hl
  · intro h
    exact List.mem_map.mpr ⟨.str (st x), sortD_mem.mpr (List.mem_map_of_mem (f := fun l => PyData.str (st l)) h), by simp [codes, cs_st]⟩
theorem srt_len {L : List (List Nat)} : (srt L).length = L.length := by
  unfold srt; rw [List.length_map, sortD_len, List.length_map]
theorem srt_perm {A B : List (List Nat)} (p : A.Perm B) : srt A = srt B := by
  have := sortD_perm (p.map st)
  unfold srt
  rw [List.map_map, List.map_map] at this
  exact congrArg (List.map codes) this
noncomputable def sset (L : List (List Nat)) : List (List Nat) := srt (uniq [] L)
theorem sset_mem {L : List (List Nat)} {x : List Nat} : x ∈ sset L ↔ x ∈ L := by
  unfold sset; rw [srt_mem, uniq_mem]; simp
theorem sset_len {L : List (List Nat)} : (sset L).length ≤ L.length := by
  unfold sset; rw [srt_len]; simpa using @uniq_len [] L
theorem sset_congr {A B : List (List Nat)} (h : ∀ l, l ∈ A ↔ l ∈ B) : sset A = sset B := by
  unfold sset
  refine srt_perm ((List.perm_ext_iff_of_nodup (uniq_nodup (by simp)) (uniq_nodup (by simp))).mpr fun l => ?_)
  rw [uniq_mem, uniq_mem, h l]
theorem keysL_st {L : List (List Nat)} : keysL (L.map fun l => .d (.str (st l))) = some (L.map K) := by
  induction L with
  | nil => rfl
  | cons l r ih => simp only [List.map_cons, keysL, ih]; rfl
theorem kstrs_K {L : List (List Nat)} : kstrs (L.map K) = some (L.map st) := by
  induction L with
  | nil => rfl
  | cons l r ih => simp only [List.map_cons, K, kstrs]; rw [ih]; rfl
theorem sortK_st {L : List (List Nat)} (hk : ∀ l ∈ L, ∀ c ∈ l, c < 0x110000) : sortK (L.map K) = some (.lst ((srt L).map fun l => .d (.str (st l)))) := by
  unfold sortK
  rw [kstrs_K]
  simp only
  rw [if_pos]
  · congr 2
    rw [List.map_map, show ((PyData.str ∘ st) : List Nat → PyData) = fun l => .str (st l) from rfl, srt_data, List.map_map]
    rfl
  · rw [List.all_eq_true]
    intro z hz
    obtain ⟨l, hl, rfl⟩ := List.mem_map.mp hz
    exact strOk_of (by rw [cs_st]; exact hk l hl)
theorem sortSet_st {L : List (List Nat)} (hL : L.length + 1 < 4096) (hk : ∀ l ∈ L, ∀ c ∈ l, c < 0x110000) : gSortSet S [.d (.list (L.map fun l => .str (st l)))] = some (.lst ((sset L).map fun l => .d (.str (st l)))) := by
  show (match keysL ((L.map fun l => PyData.str (st l)).map Mv.d) with | some ks => if ks.length + 1 < 4096 then sortK (keysOf [] ks) else none | none => none) = _
  rw [List.map_map, show (Mv.d ∘ fun l => PyData.str (st l)) = fun l => Mv.d (.str (st l)) from rfl, keysL_st]
  simp only
  rw [if_pos (by rw [List.length_map]; exact hL), show keysOf [] (L.map K) = (uniq [] L).map K from keysOf_K (acc := []), sortK_st]
  · rfl
  · intro l hl c hc
    rw [uniq_mem] at hl
    exact hk l (hl.elim (fun z => nomatch z) id) c hc
/-! set comprehensions -/
noncomputable def k2Sc (b : Bi) : List Key → Sg → Res Mv := fun ks S => bearO b (sortK ks) S
def k2ScL : List Key → Sg → Res Mv := fun ks S => .ok (.d (.int (ks.length : Nat))) S
noncomputable def k1Sc (b : Bi) (g : MG) (tt : MT) (te : ME) (vs : List Nat) (ρ : Rho) : List Mv → Sg → Res Mv := fun xs S => (scLoop g tt te (wipeM ρ vs) xs [] S).nox.bind (k2Sc b)
def k1ScL (g : MG) (tt : MT) (te : ME) (vs : List Nat) (ρ : Rho) : List Mv → Sg → Res Mv := fun xs S => (scLoop g tt te (wipeM ρ vs) xs [] S).nox.bind k2ScL
theorem ev_sortSc {b : Bi} {mi : MA} {g : MG} {tt : MT} {te : ME} {vs : List Nat} : mSortSc b mi g tt te vs ρ S = (mi ρ S).bind (k1Sc b g tt te vs ρ) := rfl
theorem ev_lenSc {mi : MA} {g : MG} {tt : MT} {te : ME} {vs : List Nat} : mLenSc mi g tt te vs ρ S = (mi ρ S).bind (k1ScL g tt te vs ρ) := rfl
theorem ev_sc1 {b : Bi} {g : MG} {tt : MT} {te : ME} {vs : List Nat} {xs : List Mv} : k1Sc b g tt te vs ρ xs S = (scLoop g tt te (wipeM ρ vs) xs [] S).nox.bind (k2Sc b) := rfl
theorem ev_scL1 {g : MG} {tt : MT} {te : ME} {vs : List Nat} {xs : List Mv} : k1ScL g tt te vs ρ xs S = (scLoop g tt te (wipeM ρ vs) xs [] S).nox.bind k2ScL := rfl
theorem ev_sc2 {b : Bi} {ks : List Key} : k2Sc b ks S = bearO b (sortK ks) S := rfl
theorem ev_scL2 {ks : List Key} : k2ScL ks S = .ok (.d (.int (ks.length : Nat))) S := rfl
theorem sc_filterF {α : Type} {g : MG} {tt : MT} {te : ME} {h : α → Mv} {f : α → List Nat} {p : α → Bool} : ∀ {l : List α} {acc : List (List Nat)}, (∀ a ∈ l, ∃ ρ1, g S (h a) ρ = some ρ1 ∧ tt ρ1 S = .ok (p a) S ∧ (p a = true → te ρ1 S = .ok (.d (.str (st (f a)))) S)) → acc.length + l.length + 1 < 4096 →
    scLoop g tt te ρ (l.map h) (acc.map K) S = .ok ((uniq acc ((l.filter p).map f)).map K) S
  | [], acc, _, _ => rfl
  | a :: l, acc, hh, hl => by
    obtain ⟨ρ1, h1, h2, h3⟩ := hh a (List.mem_cons_self ..)
    rw [List.length_cons] at hl
    have ih := fun acc (hz : acc.length + l.length + 1 < 4096) => sc_filterF (acc := acc) (fun y hy => hh y (List.mem_cons_of_mem _ hy)) hz
    rw [List.map_cons]
    simp only [scLoop]
    rw [h1]
    simp only
    rw [h2]
    cases e : p a with
    | true =>
      simp only [Res.bind, if_true]
      rw [h3 e]
      simp only [keyO]
      rw [if_pos (by rw [List.length_map]; omega), show (Sum.inr (st (f a)) : Key) = K (f a) from rfl, addK_K, ih _ (by have := @addL_len acc (f a); omega)]
      simp only [List.filter_cons, e, if_true, List.map_cons, uniq]
    | false =>
      simp only [Res.bind, Bool.false_eq_true, if_false]
      rw [ih _ (by omega)]
      simp only [List.filter_cons, e, Bool.false_eq_true, if_false]
/-! ### partition by one sign -/
theorem part_at {a b : List Nat} {c : Nat} (h : c ∉ a) : Txt.partition (st (a ++ c :: b)) (st [c]) = (st a, st [c], st b) := by
  have e : st (a ++ c :: b) = st a ++ st [c] ++ st b := by rw [st_app, st_app, List.append_assoc]; rfl
  rw [e]
  exact TL.partition_app (s := c) (S := []) rfl (a := st a) (b := st b) (by simpa [TL.tl, st] using h)
theorem part_no {a : List Nat} {c : Nat} (h : c ∉ a) : Txt.partition (st a) (st [c]) = (st a, st [], st []) := by
  have := TL.partition_none (y := st [c]) (s := c) (S := []) rfl (a := st a) (by simpa [TL.tl, st] using h)
  rw [this]; rfl
end
end MM.Q
end
section
set_option Elab.async false
set_option linter.all false
set_option maxRecDepth 100000
set_option maxHeartbeats 4000000
set_option autoImplicit false
namespace Law
open PySem PySem.Spec PyProof.Rows L2 MM
noncomputable section
def topS (i : Nat) : Stmt := PySem.Challenge.pw_madestore_k03_names_in_texts.main.body.getD i (.Pass ⟨0, 0, 0, 0⟩)
def k_LETTERS : Str := ("abcdefghijklmnopqrstuvwxyz" : Str)
def k_FIGURES : Str := ("0123456789abcdfghijklmnpqrsvwxyz" : Str)
def k_BEGIN : Str := ("#" : Str)
def k_BETWEEN : Str := ("-" : Str)
def k_END : Str := (";" : Str)
abbrev s_is_label : Stmt := topS 5
abbrev N_is_label : List Str := ["thing", "sign"]
theorem sc_is_label : FnScope N_is_label ["thing"] (defScope s_is_label) := ⟨rfl, rfl, rfl, by decide +kernel, rfl, by decide +kernel, by decide +kernel⟩
def e_is_label_1 : ME :=
  mBin .ref (gInN false) (mVar 1) (mC (.str k_LETTERS))
def m_is_label : MS :=
  mRet (mAnd (mCB .frz gIsi (mCons (mVar 0) (mCons (mK (.ty "str")) (mNil)))) (mAnd (mChain gLe gLe (mC (.int 1)) (mCB .frz gLen (mCons (mVar 0) (mNil))) (mC (.int 8))) (mCB .frz gAll (mCons (mLc .frz (mIter (mVar 0)) (mgName 1) mYes (e_is_label_1) [1]) (mNil)))))
def f_is_label : List Mv → Sg → Res Mv := fnM N_is_label.length m_is_label
abbrev s_is_mark : Stmt := topS 6
abbrev N_is_mark : List Str := ["thing", "sign"]
theorem sc_is_mark : FnScope N_is_mark ["thing"] (defScope s_is_mark) := ⟨rfl, rfl, rfl, by decide +kernel, rfl, by decide +kernel, by decide +kernel⟩
def e_is_mark_1 : ME :=
  mBin .ref (gInN false) (mVar 1) (mC (.str k_FIGURES))
def m_is_mark : MS :=
  mRet (mAnd (mCB .frz gIsi (mCons (mVar 0) (mCons (mK (.ty "str")) (mNil)))) (mAnd (mBin .ref (gEqN false) (mCB .frz gLen (mCons (mVar 0) (mNil))) (mC (.int 8))) (mCB .frz gAll (mCons (mLc .frz (mIter (mVar 0)) (mgName 1) mYes (e_is_mark_1) [1]) (mNil)))))
def f_is_mark : List Mv → Sg → Res Mv := fnM N_is_mark.length m_is_mark
abbrev s_mark_in : Stmt := topS 14
abbrev N_mark_in : List Str := ["name"]
theorem sc_mark_in : FnScope N_mark_in ["name"] (defScope s_mark_in) := ⟨rfl, rfl, rfl, by decide +kernel, rfl, by decide +kernel, by decide +kernel⟩
def m_mark_in : MS :=
  mRet (mSl .frz (mVar 0) (mOS (mC (.int 1))) (mOS (mC (.int 9))))
def f_mark_in : List Mv → Sg → Res Mv := fnM N_mark_in.length m_mark_in
abbrev s_label_in : Stmt := topS 15
abbrev N_label_in : List Str := ["name"]
theorem sc_label_in : FnScope N_label_in ["name"] (defScope s_label_in) := ⟨rfl, rfl, rfl, by decide +kernel, rfl, by decide +kernel, by decide +kernel⟩
def m_label_in : MS :=
  mRet (mSl .frz (mVar 0) (mOS (mBin .frz gAdd (mC (.int 9)) (mC (.int 1)))) (mOS (mNeg (mC (.int 1)))))
def f_label_in : List Mv → Sg → Res Mv := fnM N_label_in.length m_label_in
abbrev s_L_deck : Stmt := topS 20
abbrev N_L_deck : List Str := ["_law_script", "_law_cells", "_law_cell"]
theorem sc_L_deck : FnScope N_L_deck ["_law_script"] (defScope s_L_deck) := ⟨rfl, rfl, rfl, by decide +kernel, rfl, by decide +kernel, by decide +kernel⟩
def e_L_deck_1 : ME :=
  mBin .frz gMod (mVar 2) (mC (.int 1000003))
def m_L_deck : MS :=
  mSeq (mAsg (mCB .frz gList (mCons (mSl .frz (mVar 0) (mON) (mOS (mC (.int 63)))) (mNil))) (mgName 1))
    (mRet (mDisp .ref false (mCons (mRev .ref (mVar 1)) (mCons (mBin .frz gAdd (mCB .frz gSum (mCons (mLc .frz (mIter (mVar 1)) (mgName 2) mYes (e_L_deck_1) [2]) (mNil))) (mBin .frz gMul (mC (.int 7919)) (mCB .frz gLen (mCons (mVar 1) (mNil))))) (mCons (mC (.int 0)) (mNil))))))
def f_L_deck : List Mv → Sg → Res Mv := fnM N_L_deck.length m_L_deck
abbrev s_L_draw : Stmt := topS 21
abbrev N_L_draw : List Str := ["_law_deck_here", "_law_many", "_law_cell", "_law_mixed"]
theorem sc_L_draw : FnScope N_L_draw ["_law_deck_here", "_law_many"] (defScope s_L_draw) := ⟨rfl, rfl, rfl, by decide +kernel, rfl, by decide +kernel, by decide +kernel⟩
def m_L_draw : MS :=
  mSeq (mSetIx (mBin .frz gAdd (mIx (mVar 0) (mC (.int 2))) (mC (.int 1))) (mVar 0) (mC (.int 2)))
    (mSeq (mAsg (mIx (mVar 0) (mC (.int 1))) (mgName 2))
    (mSeq (mIfS (mTst (mBin .ref (gEqN true) (mIx (mVar 0) (mC (.int 0))) (mDisp .frz false (mNil)))) (mSeq (mAsg (mBU "list" uPop (mIx (mVar 0) (mC (.int 0))) mNil) (mgName 2))
    (mIfS (mTst (mBin .ref gGe (mVar 2) (mBin .frz gPow (mC (.int 10)) (mC (.int 18))))) (mSeq (mExpr (mBU "list" uAppend (mIx (mVar 0) (mC (.int 0))) (mCons (mBin .frz gFdiv (mVar 2) (mVar 1)) (mNil))))
    (mRet (mBin .frz gMod (mVar 2) (mVar 1)))) (mSkip))) (mSkip))
    (mSeq (mAsg (mBin .frz gMod (mBin .frz gMul (mBin .frz gAdd (mBin .frz gAdd (mBin .frz gMod (mVar 2) (mC (.int 2147483629))) (mBin .frz gMul (mC (.int 65537)) (mIx (mVar 0) (mC (.int 2))))) (mC (.int 19))) (mC (.int 48271))) (mC (.int 2147483647))) (mgName 3))
    (mSeq (mAsg (mBin .frz gMod (mBin .frz gAdd (mBin .frz gAdd (mBin .frz gMul (mVar 3) (mVar 3)) (mBin .frz gMul (mC (.int 69621)) (mIx (mVar 0) (mC (.int 2))))) (mC (.int 23))) (mC (.int 2147483587))) (mgName 3))
    (mRet (mBin .frz gMod (mBin .frz gFdiv (mBin .frz gMod (mBin .frz gAdd (mBin .frz gMul (mVar 3) (mVar 3)) (mBin .frz gMul (mC (.int 39373)) (mVar 3))) (mC (.int 2147483563))) (mC (.int 64))) (mVar 1)))))))
def f_L_draw : List Mv → Sg → Res Mv := fnM N_L_draw.length m_L_draw
abbrev s_L_is_word : Stmt := topS 24
abbrev N_L_is_word : List Str := ["_law_it", "_law_sign"]
theorem sc_L_is_word : FnScope N_L_is_word ["_law_it"] (defScope s_L_is_word) := ⟨rfl, rfl, rfl, by decide +kernel, rfl, by decide +kernel, by decide +kernel⟩
def t_L_is_word_1 : MT :=
  mTst (mBin .ref (gInN true) (mVar 1) (mC (.str ("abcdefghijklmnopqrstuvwxyz" : Str))))
def m_L_is_word : MS :=
  mSeq (mIfS (mOrB (mNotB (mTruth (mCB .frz gIsi (mCons (mVar 0) (mCons (mK (.ty "str")) (mNil)))))) (mNotB (mTst (mChain gLe gLe (mC (.int 1)) (mCB .frz gLen (mCons (mVar 0) (mNil))) (mC (.int 8)))))) (mRet (mC (.bool false))) (mSkip))
    (mRet (mBin .ref (gEqN false) (mLc .frz (mIter (mVar 0)) (mgName 1) t_L_is_word_1 (mVar 1) [1]) (mDisp .frz false (mNil))))
def f_L_is_word : List Mv → Sg → Res Mv := fnM N_L_is_word.length m_L_is_word
abbrev s_L_is_mark : Stmt := topS 25
abbrev N_L_is_mark : List Str := ["_law_it", "_law_sign"]
theorem sc_L_is_mark : FnScope N_L_is_mark ["_law_it"] (defScope s_L_is_mark) := ⟨rfl, rfl, rfl, by decide +kernel, rfl, by decide +kernel, by decide +kernel⟩
def t_L_is_mark_1 : MT :=
  mTst (mBin .ref (gInN true) (mVar 1) (mC (.str ("0123456789abcdfghijklmnpqrsvwxyz" : Str))))
def m_L_is_mark : MS :=
  mSeq (mIfS (mOrB (mNotB (mTruth (mCB .frz gIsi (mCons (mVar 0) (mCons (mK (.ty "str")) (mNil)))))) (mTst (mBin .ref (gEqN true) (mCB .frz gLen (mCons (mVar 0) (mNil))) (mC (.int 8))))) (mRet (mC (.bool false))) (mSkip))
    (mRet (mBin .ref (gEqN false) (mLc .frz (mIter (mVar 0)) (mgName 1) t_L_is_mark_1 (mVar 1) [1]) (mDisp .frz false (mNil))))
def f_L_is_mark : List Mv → Sg → Res Mv := fnM N_L_is_mark.length m_L_is_mark
abbrev s_L_called : Stmt := topS 27
abbrev N_L_called : List Str := ["_law_mark", "_law_word"]
theorem sc_L_called : FnScope N_L_called ["_law_mark", "_law_word"] (defScope s_L_called) := ⟨rfl, rfl, rfl, by decide +kernel, rfl, by decide +kernel, by decide +kernel⟩
def m_L_called : MS :=
  mRet (mBin .frz gAdd (mBin .frz gAdd (mBin .frz gAdd (mBin .frz gAdd (mC (.str ("#" : Str))) (mVar 0)) (mC (.str ("-" : Str)))) (mVar 1)) (mC (.str (";" : Str))))
def f_L_called : List Mv → Sg → Res Mv := fnM N_L_called.length m_L_called
abbrev s_is_name : Stmt := topS 13
abbrev N_is_name : List Str := ["thing"]
theorem sc_is_name : FnScope N_is_name ["thing"] (defScope s_is_name) := ⟨rfl, rfl, rfl, by decide +kernel, rfl, by decide +kernel, by decide +kernel⟩
def m_is_name : MS :=
  mSeq (mIfS (mOrB (mNotB (mTruth (mCB .frz gIsi (mCons (mVar 0) (mCons (mK (.ty "str")) (mNil)))))) (mOrB (mTst (mBin .ref gLe (mCB .frz gLen (mCons (mVar 0) (mNil))) (mBin .frz gAdd (mC (.int 9)) (mC (.int 1))))) (mTst (mBin .ref (gEqN true) (mIx (mVar 0) (mC (.int 9))) (mC (.str k_BETWEEN)))))) (mRet (mC (.bool false))) (mSkip))
    (mSeq (mIfS (mOrB (mNotB (mTruth (mBM .frz "str" gStarts (mVar 0) (mCons (mC (.str k_BEGIN)) (mNil))))) (mNotB (mTruth (mBM .frz "str" gEnds (mVar 0) (mCons (mC (.str k_END)) (mNil)))))) (mRet (mC (.bool false))) (mSkip))
    (mRet (mAnd (mCall 1 f_is_mark [] (mCons (mSl .frz (mVar 0) (mOS (mC (.int 1))) (mOS (mC (.int 9)))) (mNil))) (mCall 1 f_is_label [] (mCons (mSl .frz (mVar 0) (mOS (mBin .frz gAdd (mC (.int 9)) (mC (.int 1)))) (mOS (mNeg (mC (.int 1))))) (mNil))))))
def f_is_name : List Mv → Sg → Res Mv := fnM N_is_name.length m_is_name
abbrev s_L_pick : Stmt := topS 22
abbrev N_L_pick : List Str := ["_law_deck_here", "_law_some"]
theorem sc_L_pick : FnScope N_L_pick ["_law_deck_here", "_law_some"] (defScope s_L_pick) := ⟨rfl, rfl, rfl, by decide +kernel, rfl, by decide +kernel, by decide +kernel⟩
def m_L_pick : MS :=
  mRet (mIx (mVar 1) (mCall 2 f_L_draw [] (mCons (mVar 0) (mCons (mCB .frz gLen (mCons (mVar 1) (mNil))) (mNil)))))
def f_L_pick : List Mv → Sg → Res Mv := fnM N_L_pick.length m_L_pick
abbrev s_L_words : Stmt := topS 23
abbrev N_L_words : List Str := ["_law_deck_here", "_law_many", "_law_letters", "_law_way", "_law_first", "_law_word", "_law_at", "_law_found", "_law_k", "_law_sign", "_law_one", "_law_left"]
theorem sc_L_words : FnScope N_L_words ["_law_deck_here", "_law_many"] (defScope s_L_words) := ⟨rfl, rfl, rfl, by decide +kernel, rfl, by decide +kernel, by decide +kernel⟩
def e_L_words_1 : ME :=
  mIx (mVar 2) (mCall 2 f_L_draw [] (mCons (mVar 0) (mCons (mC (.int 26)) (mNil))))
def b_L_words_1 : MS :=
  mSeq (mAsg (mIx (mVar 2) (mBin .frz gMod (mBin .frz gAdd (mVar 4) (mBin .frz gMul (mC (.int 5)) (mVar 8))) (mC (.int 26)))) (mgName 9))
    (mSeq (mAsg (mIx (mDisp .frz false (mCons (mVar 9) (mCons (mBin .frz gAdd (mBin .frz gAdd (mSl .frz (mVar 5) (mON) (mOS (mVar 6))) (mVar 9)) (mSl .frz (mVar 5) (mOS (mVar 6)) (mON))) (mCons (mSl .frz (mBin .frz gAdd (mVar 5) (mVar 9)) (mON) (mOS (mBin .frz gAdd (mBin .frz gMod (mVar 8) (mC (.int 8))) (mC (.int 1))))) (mNil))))) (mVar 3)) (mgName 10))
    (mIfS (mTst (mBin .ref (gInN true) (mVar 10) (mVar 7))) (mExpr (mBU "list" uAppend (mVar 7) (mCons (mVar 10) (mNil)))) (mSkip)))
def b_L_words_2 : MS :=
  mSeq (mAsg (mBin .frz gAdd (mC (.str ("qq" : Str))) (mIx (mVar 2) (mVar 8))) (mgName 10))
    (mIfS (mTst (mBin .ref (gInN true) (mVar 10) (mVar 7))) (mExpr (mBU "list" uAppend (mVar 7) (mCons (mVar 10) (mNil)))) (mSkip))
def e_L_words_2 : ME :=
  mBU "list" uPop (mVar 11) (mCons (mCall 2 f_L_draw [] (mCons (mVar 0) (mCons (mCB .frz gLen (mCons (mVar 11) (mNil))) (mNil)))) (mNil))
def m_L_words : MS :=
  mSeq (mAsg (mC (.str ("abcdefghijklmnopqrstuvwxyz" : Str))) (mgName 2))
    (mSeq (mPar 3 4 (mCons (mCall 2 f_L_draw [] (mCons (mVar 0) (mCons (mC (.int 3)) (mNil)))) (mCons (mCall 2 f_L_draw [] (mCons (mVar 0) (mCons (mC (.int 26)) (mNil)))) (mNil))))
    (mSeq (mAsg (mBM .frz "str" gJoin (mC (.str ("" : Str))) (mCons (mLc .frz (mRange1 (mCons (mC (.int 7)) (mNil))) (mgName 8) mYes (e_L_words_1) [8]) (mNil))) (mgName 5))
    (mSeq (mAsg (mCall 2 f_L_draw [] (mCons (mVar 0) (mCons (mC (.int 7)) (mNil)))) (mgName 6))
    (mSeq (mAsg (mDisp .own false (mNil)) (mgName 7))
    (mSeq (mFor (mRange1 (mCons (mC (.int 24)) (mNil))) (mgName 8) b_L_words_1)
    (mSeq (mFor (mRange1 (mCons (mC (.int 14)) (mNil))) (mgName 8) b_L_words_2)
    (mSeq (mAsg (mSl .own (mVar 7) (mON) (mOS (mBin .frz gAdd (mVar 1) (mC (.int 2))))) (mgName 11))
    (mRet (mLc .frz (mRange1 (mCons (mVar 1) (mNil))) (mgName 8) mYes (e_L_words_2) [8])))))))))
def f_L_words : List Mv → Sg → Res Mv := fnM N_L_words.length m_L_words
abbrev s_L_is_called : Stmt := topS 26
abbrev N_L_is_called : List Str := ["_law_it"]
theorem sc_L_is_called : FnScope N_L_is_called ["_law_it"] (defScope s_L_is_called) := ⟨rfl, rfl, rfl, by decide +kernel, rfl, by decide +kernel, by decide +kernel⟩
def m_L_is_called : MS :=
  mSeq (mIfS (mOrB (mNotB (mTruth (mCB .frz gIsi (mCons (mVar 0) (mCons (mK (.ty "str")) (mNil)))))) (mOrB (mTst (mBin .ref (gEqN true) (mSl .frz (mVar 0) (mON) (mOS (mC (.int 1)))) (mC (.str ("#" : Str))))) (mOrB (mTst (mBin .ref (gEqN true) (mSl .frz (mVar 0) (mOS (mNeg (mC (.int 1)))) (mON)) (mC (.str (";" : Str))))) (mOrB (mTst (mBin .ref gLt (mCB .frz gLen (mCons (mVar 0) (mNil))) (mC (.int 12)))) (mTst (mBin .ref (gEqN true) (mIx (mVar 0) (mC (.int 9))) (mC (.str ("-" : Str))))))))) (mRet (mC (.bool false))) (mSkip))
    (mRet (mAnd (mCall 1 f_L_is_mark [] (mCons (mSl .frz (mVar 0) (mOS (mC (.int 1))) (mOS (mC (.int 9)))) (mNil))) (mCall 1 f_L_is_word [] (mCons (mSl .frz (mVar 0) (mOS (mC (.int 10))) (mOS (mNeg (mC (.int 1))))) (mNil)))))
def f_L_is_called : List Mv → Sg → Res Mv := fnM N_L_is_called.length m_L_is_called
abbrev s_L_marks : Stmt := topS 28
abbrev N_L_marks : List Str := ["_law_deck_here", "_law_signs", "_law_one", "_law_at", "_law_other", "_law_k"]
theorem sc_L_marks : FnScope N_L_marks ["_law_deck_here"] (defScope s_L_marks) := ⟨rfl, rfl, rfl, by decide +kernel, rfl, by decide +kernel, by decide +kernel⟩
def e_L_marks_1 : ME :=
  mIx (mVar 1) (mCall 2 f_L_draw [] (mCons (mVar 0) (mCons (mC (.int 32)) (mNil))))
def m_L_marks : MS :=
  mSeq (mAsg (mC (.str ("0123456789abcdfghijklmnpqrsvwxyz" : Str))) (mgName 1))
    (mSeq (mAsg (mBM .frz "str" gJoin (mC (.str ("" : Str))) (mCons (mLc .frz (mRange1 (mCons (mC (.int 8)) (mNil))) (mgName 5) mYes (e_L_marks_1) [5]) (mNil))) (mgName 2))
    (mSeq (mAsg (mCall 2 f_L_draw [] (mCons (mVar 0) (mCons (mC (.int 8)) (mNil)))) (mgName 3))
    (mSeq (mAsg (mIx (mVar 1) (mBin .frz gMod (mBin .frz gAdd (mIndex (mVar 1) (mCons (mIx (mVar 2) (mVar 3)) (mNil))) (mC (.int 1))) (mC (.int 32)))) (mgName 4))
    (mRet (mDisp .frz false (mCons (mVar 2) (mCons (mBin .frz gAdd (mBin .frz gAdd (mSl .frz (mVar 2) (mON) (mOS (mVar 3))) (mVar 4)) (mSl .frz (mVar 2) (mOS (mBin .frz gAdd (mVar 3) (mC (.int 1)))) (mON))) (mCons (mC (.str ("00000000" : Str))) (mNil)))))))))
def f_L_marks : List Mv → Sg → Res Mv := fnM N_L_marks.length m_L_marks
abbrev s_name_at : Stmt := topS 16
abbrev N_name_at : List Str := ["text", "at", "found", "end", "behind"]
theorem sc_name_at : FnScope N_name_at ["text", "at"] (defScope s_name_at) := ⟨rfl, rfl, rfl, by decide +kernel, rfl, by decide +kernel, by decide +kernel⟩
def m_name_at : MS :=
  mSeq (mAsg (mBM .frz "str" gPart (mSl .frz (mVar 0) (mOS (mVar 1)) (mOS (mBin .frz gAdd (mVar 1) (mC (.int 19))))) (mCons (mC (.str k_END)) (mNil))) (mgTup 3 (mgCons (mgName 2) (mgCons (mgName 3) (mgCons (mgName 4) (mgNil))))))
    (mRet (mIf (mTruth (mCall 1 f_is_name [] (mCons (mBin .frz gAdd (mVar 2) (mVar 3)) (mNil)))) (mBin .frz gAdd (mVar 2) (mVar 3)) (mC .none)))
def f_name_at : List Mv → Sg → Res Mv := fnM N_name_at.length m_name_at
abbrev s_L_piece : Stmt := topS 29
abbrev N_L_piece : List Str := ["_law_deck_here", "_law_pool", "_law_way", "_law_one", "_law_at", "_law_sign", "_law_some"]
theorem sc_L_piece : FnScope N_L_piece ["_law_deck_here", "_law_pool"] (defScope s_L_piece) := ⟨rfl, rfl, rfl, by decide +kernel, rfl, by decide +kernel, by decide +kernel⟩
def m_L_piece : MS :=
  mSeq (mPar 2 3 (mCons (mCall 2 f_L_draw [] (mCons (mVar 0) (mCons (mC (.int 9)) (mNil)))) (mCons (mCall 2 f_L_pick [] (mCons (mVar 0) (mCons (mVar 1) (mNil)))) (mNil))))
    (mSeq (mAsg (mCall 2 f_L_draw [] (mCons (mVar 0) (mCons (mCB .frz gLen (mCons (mVar 3) (mNil))) (mNil)))) (mgName 4))
    (mSeq (mAsg (mIx (mC (.str ("#;-0aeZ \n~" : Str))) (mCall 2 f_L_draw [] (mCons (mVar 0) (mCons (mC (.int 10)) (mNil))))) (mgName 5))
    (mSeq (mAsg (mDisp .frz false (mCons (mVar 3) (mCons (mVar 3) (mCons (mVar 3) (mCons (mBin .frz gAdd (mSl .frz (mVar 3) (mON) (mOS (mVar 4))) (mSl .frz (mVar 3) (mOS (mBin .frz gAdd (mVar 4) (mC (.int 1)))) (mON))) (mCons (mBin .frz gAdd (mBin .frz gAdd (mSl .frz (mVar 3) (mON) (mOS (mVar 4))) (mVar 5)) (mSl .frz (mVar 3) (mOS (mVar 4)) (mON))) (mCons (mBin .frz gAdd (mBin .frz gAdd (mSl .frz (mVar 3) (mON) (mOS (mVar 4))) (mVar 5)) (mSl .frz (mVar 3) (mOS (mBin .frz gAdd (mVar 4) (mC (.int 1)))) (mON))) (mNil)))))))) (mgName 6))
    (mRet (mIx (mBin .frz gAdd (mVar 6) (mDisp .frz false (mCons (mVar 5) (mCons (mBin .frz gMul (mC (.str ("a" : Str))) (mCall 2 f_L_draw [] (mCons (mVar 0) (mCons (mC (.int 9)) (mNil))))) (mCons (mSl .frz (mVar 3) (mON) (mOS (mVar 4))) (mNil)))))) (mVar 2))))))
def f_L_piece : List Mv → Sg → Res Mv := fnM N_L_piece.length m_L_piece
abbrev s_L_all_within : Stmt := topS 30
abbrev N_L_all_within : List Str := ["_law_written", "_law_found", "_law_at", "_law_sign", "_law_some", "_law_size", "_law_one"]
theorem sc_L_all_within : FnScope N_L_all_within ["_law_written"] (defScope s_L_all_within) := ⟨rfl, rfl, rfl, by decide +kernel, rfl, by decide +kernel, by decide +kernel⟩
def t_L_all_within_1 : MT :=
  mTst (mBin .ref gLe (mBin .frz gAdd (mVar 2) (mVar 5)) (mCB .frz gLen (mCons (mVar 0) (mNil))))
def e_L_all_within_1 : ME :=
  mSl .frz (mVar 0) (mOS (mVar 2)) (mOS (mBin .frz gAdd (mVar 2) (mVar 5)))
def t_L_all_within_2 : MT :=
  mTruth (mCall 1 f_L_is_called [] (mCons (mVar 6) (mNil)))
def b_L_all_within_1 : MS :=
  mIfS (mTst (mBin .ref (gEqN false) (mVar 3) (mC (.str ("#" : Str))))) (mSeq (mAsg (mLc .frz (mRange2 (mCons (mC (.int 12)) (mCons (mC (.int 20)) (mNil)))) (mgName 5) t_L_all_within_1 (e_L_all_within_1) [5]) (mgName 4))
    (mAsg (mBin .frz gAdd (mVar 1) (mLc .frz (mIter (mVar 4)) (mgName 6) t_L_all_within_2 (mVar 6) [6])) (mgName 1))) (mSkip)
def m_L_all_within : MS :=
  mSeq (mAsg (mDisp .frz false (mNil)) (mgName 1))
    (mSeq (mFor (mEnum (mCons (mVar 0) (mNil))) (mgTup 2 (mgCons (mgName 2) (mgCons (mgName 3) (mgNil)))) b_L_all_within_1)
    (mRet (mCB .frz gTuple (mCons (mCB .frz gSortSet (mCons (mVar 1) (mNil))) (mNil)))))
def f_L_all_within : List Mv → Sg → Res Mv := fnM N_L_all_within.length m_L_all_within
abbrev s_places_in : Stmt := topS 17
abbrev N_places_in : List Str := ["text", "found", "at", "sign", "name"]
theorem sc_places_in : FnScope N_places_in ["text"] (defScope s_places_in) := ⟨rfl, rfl, rfl, by decide +kernel, rfl, by decide +kernel, by decide +kernel⟩
def t_places_in_1 : MT :=
  mTst (mBin .ref (gEqN false) (mVar 3) (mC (.str k_BEGIN)))
def e_places_in_1 : ME :=
  mDisp .ref true (mCons (mVar 2) (mCons (mCall 2 f_name_at [] (mCons (mVar 0) (mCons (mVar 2) (mNil)))) (mNil)))
def t_places_in_2 : MT :=
  mTst (mBin .ref (gIsN true) (mVar 4) (mC .none))
def e_places_in_2 : ME :=
  mDisp .ref true (mCons (mVar 2) (mCons (mVar 4) (mNil)))
def m_places_in : MS :=
  mSeq (mAsg (mLc .frz (mEnum (mCons (mVar 0) (mNil))) (mgTup 2 (mgCons (mgName 2) (mgCons (mgName 3) (mgNil)))) t_places_in_1 (e_places_in_1) [2, 3]) (mgName 1))
    (mRet (mLc .frz (mIter (mVar 1)) (mgTup 2 (mgCons (mgName 2) (mgCons (mgName 4) (mgNil)))) t_places_in_2 (e_places_in_2) [2, 4]))
def f_places_in : List Mv → Sg → Res Mv := fnM N_places_in.length m_places_in
abbrev s_names_in : Stmt := topS 18
abbrev N_names_in : List Str := ["text", "at", "name"]
theorem sc_names_in : FnScope N_names_in ["text"] (defScope s_names_in) := ⟨rfl, rfl, rfl, by decide +kernel, rfl, by decide +kernel, by decide +kernel⟩
def m_names_in : MS :=
  mRet (mCB .frz gTuple (mCons (mSortSc .frz (mIter (mCall 1 f_places_in [] (mCons (mVar 0) (mNil)))) (mgTup 2 (mgCons (mgName 1) (mgCons (mgName 2) (mgNil)))) mYes (mVar 2) [1, 2]) (mNil)))
def f_names_in : List Mv → Sg → Res Mv := fnM N_names_in.length m_names_in
abbrev s_law : Stmt := topS 31
abbrev N_law : List Str := ["_law_script", "_law_deck_here", "_law_asked", "_law_turn", "_law_great", "_law_first", "_law_second", "_law_pool", "_law_pieces", "_law_written", "_law_due", "_law_told", "_law_one", "_law_k"]
theorem sc_law : FnScope N_law ["_law_script"] (defScope s_law) := ⟨rfl, rfl, rfl, by decide +kernel, rfl, by decide +kernel, by decide +kernel⟩
def e_law_1 : ME :=
  mCall 2 f_L_called [] (mCons (mVar 12) (mCons (mVar 5) (mNil)))
def e_law_2 : ME :=
  mCall 2 f_L_called [] (mCons (mVar 12) (mCons (mVar 6) (mNil)))
def e_law_3 : ME :=
  mCall 2 f_L_piece [] (mCons (mVar 1) (mCons (mVar 7) (mNil)))
def b_law_1 : MS :=
  mSeq (mAsg (mBin .ref (gEqN false) (mCall 2 f_L_draw [] (mCons (mVar 1) (mCons (mC (.int 8)) (mNil)))) (mC (.int 5))) (mgName 4))
    (mSeq (mAsg (mCall 2 f_L_words [] (mCons (mVar 1) (mCons (mC (.int 2)) (mNil)))) (mgTup 2 (mgCons (mgName 5) (mgCons (mgName 6) (mgNil)))))
    (mSeq (mAsg (mLc .frz (mIter (mCall 1 f_L_marks [] (mCons (mVar 1) (mNil)))) (mgName 12) mYes (e_law_1) [12]) (mgName 7))
    (mSeq (mAsg (mBin .frz gAdd (mVar 7) (mLc .frz (mIter (mCall 1 f_L_marks [] (mCons (mVar 1) (mNil)))) (mgName 12) mYes (e_law_2) [12])) (mgName 7))
    (mSeq (mAsg (mLc .frz (mRange1 (mCons (mIx (mDisp .frz false (mCons (mCall 2 f_L_draw [] (mCons (mVar 1) (mCons (mC (.int 15)) (mNil)))) (mCons (mC (.int 80)) (mNil)))) (mCB .frz gInt (mCons (mVar 4) (mNil)))) (mNil))) (mgName 13) mYes (e_law_3) [13]) (mgName 8))
    (mExpr (mBU "list" uAppend (mVar 2) (mCons (mBM .frz "str" gJoin (mC (.str ("" : Str))) (mCons (mVar 8) (mNil))) (mNil))))))))
def b_law_3 : MS :=
  mIfS (mOrB (mTst (mBin .ref (gIsN true) (mCall 1 f_is_name [] (mCons (mVar 12) (mNil))) (mC (.bool true)))) (mTst (mBin .ref (gEqN true) (mBin .frz gAdd (mBin .frz gAdd (mBin .frz gAdd (mBin .frz gAdd (mC (.str ("#" : Str))) (mCall 1 f_mark_in [] (mCons (mVar 12) (mNil)))) (mC (.str ("-" : Str)))) (mCall 1 f_label_in [] (mCons (mVar 12) (mNil)))) (mC (.str (";" : Str)))) (mVar 12)))) (mRet (mC (.bool false))) (mSkip)
def b_law_2 : MS :=
  mSeq (mAsg (mCall 1 f_L_all_within [] (mCons (mVar 9) (mNil))) (mgName 10))
    (mSeq (mAsg (mDisp .frz false (mCons (mCall 1 f_names_in [] (mCons (mVar 9) (mNil))) (mCons (mCallK 1 f_names_in [.k 0] [] mNil (mCons (mVar 9) (mNil))) (mCons (mCall 1 f_names_in [] (mCons (mBin .frz gAdd (mBin .frz gAdd (mVar 9) (mC (.str ("\n" : Str)))) (mVar 9)) (mNil))) (mNil))))) (mgName 11))
    (mSeq (mIfS (mTst (mBin .ref (gEqN true) (mCB .frz gRepr (mCons (mVar 11) (mNil))) (mCB .frz gRepr (mCons (mBin .frz gMul (mDisp .frz false (mCons (mVar 10) (mNil))) (mC (.int 3))) (mNil))))) (mRet (mC (.bool false))) (mSkip))
    (mFor (mIter (mCall 1 f_names_in [] (mCons (mVar 9) (mNil)))) (mgName 12) b_law_3)))
def m_law : MS :=
  mSeq (mAsg (mCall 1 f_L_deck [] (mCons (mVar 0) (mNil))) (mgName 1))
    (mSeq (mAsg (mDisp .own false (mNil)) (mgName 2))
    (mSeq (mFor (mRange1 (mCons (mC (.int 8)) (mNil))) (mgName 3) b_law_1)
    (mSeq (mFor (mIter (mBin .frz gAdd (mVar 2) (mSl .frz (mVar 2) (mON) (mOS (mC (.int 2)))))) (mgName 9) b_law_2)
    (mRet (mC (.bool true))))))
def f_law : List Mv → Sg → Res Mv := fnM N_law.length m_law
/-- what the top has left -/
structure Txt (K : PySem.W.Frag) (mg : Str → Option Value) where
  t_LETTERS : Tok
  c_LETTERS : mg "LETTERS" = some (.str k_LETTERS t_LETTERS)
  t_LONGEST_LABEL : Tok
  c_LONGEST_LABEL : mg "LONGEST_LABEL" = some (.int 8 t_LONGEST_LABEL)
  t_FIGURES : Tok
  c_FIGURES : mg "FIGURES" = some (.str k_FIGURES t_FIGURES)
  t_LONG : Tok
  c_LONG : mg "LONG" = some (.int 8 t_LONG)
  t_BEGIN : Tok
  c_BEGIN : mg "BEGIN" = some (.str k_BEGIN t_BEGIN)
  t_BETWEEN : Tok
  c_BETWEEN : mg "BETWEEN" = some (.str k_BETWEEN t_BETWEEN)
  t_END : Tok
  c_END : mg "END" = some (.str k_END t_END)
  t_AT : Tok
  c_AT : mg "AT" = some (.int 9 t_AT)
  t_LONGEST : Tok
  c_LONGEST : mg "LONGEST" = some (.int 19 t_LONGEST)
  b_all : mg "all" = none
  b_enumerate : mg "enumerate" = none
  b_int : mg "int" = none
  b_isinstance : mg "isinstance" = none
  b_len : mg "len" = none
  b_list : mg "list" = none
  b_range : mg "range" = none
  b_repr : mg "repr" = none
  b_set : mg "set" = none
  b_sorted : mg "sorted" = none
  b_str : mg "str" = none
  b_sum : mg "sum" = none
  b_tuple : mg "tuple" = none
  a_is_label : Addr
  d_is_label : FuncData
  F_is_label : Fun K "is_label" "is_label" s_is_label a_is_label d_is_label
  g_is_label : mg "is_label" = some (.ref a_is_label)
  bd_is_label : L2.Binds K d_is_label ["thing"] []
  a_is_mark : Addr
  d_is_mark : FuncData
  F_is_mark : Fun K "is_mark" "is_mark" s_is_mark a_is_mark d_is_mark
  g_is_mark : mg "is_mark" = some (.ref a_is_mark)
  bd_is_mark : L2.Binds K d_is_mark ["thing"] []
  a_mark_in : Addr
  d_mark_in : FuncData
  F_mark_in : Fun K "mark_in" "mark_in" s_mark_in a_mark_in d_mark_in
  g_mark_in : mg "mark_in" = some (.ref a_mark_in)
  bd_mark_in : L2.Binds K d_mark_in ["name"] []
  a_label_in : Addr
  d_label_in : FuncData
  F_label_in : Fun K "label_in" "label_in" s_label_in a_label_in d_label_in
  g_label_in : mg "label_in" = some (.ref a_label_in)
  bd_label_in : L2.Binds K d_label_in ["name"] []
  a_L_deck : Addr
  d_L_deck : FuncData
  F_L_deck : Fun K "_law_deck" "_law_deck" s_L_deck a_L_deck d_L_deck
  g_L_deck : mg "_law_deck" = some (.ref a_L_deck)
  bd_L_deck : L2.Binds K d_L_deck ["_law_script"] []
  a_L_draw : Addr
  d_L_draw : FuncData
  F_L_draw : Fun K "_law_draw" "_law_draw" s_L_draw a_L_draw d_L_draw
  g_L_draw : mg "_law_draw" = some (.ref a_L_draw)
  bd_L_draw : L2.Binds K d_L_draw ["_law_deck_here", "_law_many"] []
  a_L_is_word : Addr
  d_L_is_word : FuncData
  F_L_is_word : Fun K "_law_is_word" "_law_is_word" s_L_is_word a_L_is_word d_L_is_word
  g_L_is_word : mg "_law_is_word" = some (.ref a_L_is_word)
  bd_L_is_word : L2.Binds K d_L_is_word ["_law_it"] []
  a_L_is_mark : Addr
  d_L_is_mark : FuncData
  F_L_is_mark : Fun K "_law_is_mark" "_law_is_mark" s_L_is_mark a_L_is_mark d_L_is_mark
  g_L_is_mark : mg "_law_is_mark" = some (.ref a_L_is_mark)
  bd_L_is_mark : L2.Binds K d_L_is_mark ["_law_it"] []
  a_L_called : Addr
  d_L_called : FuncData
  F_L_called : Fun K "_law_called" "_law_called" s_L_called a_L_called d_L_called
  g_L_called : mg "_law_called" = some (.ref a_L_called)
  bd_L_called : L2.Binds K d_L_called ["_law_mark", "_law_word"] []
  a_is_name : Addr
  d_is_name : FuncData
  F_is_name : Fun K "is_name" "is_name" s_is_name a_is_name d_is_name
  g_is_name : mg "is_name" = some (.ref a_is_name)
  bd_is_name : L2.Binds K d_is_name ["thing"] []
  a_L_pick : Addr
  d_L_pick : FuncData
  F_L_pick : Fun K "_law_pick" "_law_pick" s_L_pick a_L_pick d_L_pick
  g_L_pick : mg "_law_pick" = some (.ref a_L_pick)
  bd_L_pick : L2.Binds K d_L_pick ["_law_deck_here", "_law_some"] []
  a_L_words : Addr
  d_L_words : FuncData
  F_L_words : Fun K "_law_words" "_law_words" s_L_words a_L_words d_L_words
  g_L_words : mg "_law_words" = some (.ref a_L_words)
  bd_L_words : L2.Binds K d_L_words ["_law_deck_here", "_law_many"] []
  a_L_is_called : Addr
  d_L_is_called : FuncData
  F_L_is_called : Fun K "_law_is_called" "_law_is_called" s_L_is_called a_L_is_called d_L_is_called
  g_L_is_called : mg "_law_is_called" = some (.ref a_L_is_called)
  bd_L_is_called : L2.Binds K d_L_is_called ["_law_it"] []
  a_L_marks : Addr
  d_L_marks : FuncData
  F_L_marks : Fun K "_law_marks" "_law_marks" s_L_marks a_L_marks d_L_marks
  g_L_marks : mg "_law_marks" = some (.ref a_L_marks)
  bd_L_marks : L2.Binds K d_L_marks ["_law_deck_here"] []
  a_name_at : Addr
  d_name_at : FuncData
  F_name_at : Fun K "name_at" "name_at" s_name_at a_name_at d_name_at
  g_name_at : mg "name_at" = some (.ref a_name_at)
  bd_name_at : L2.Binds K d_name_at ["text", "at"] []
  a_L_piece : Addr
  d_L_piece : FuncData
  F_L_piece : Fun K "_law_piece" "_law_piece" s_L_piece a_L_piece d_L_piece
  g_L_piece : mg "_law_piece" = some (.ref a_L_piece)
  bd_L_piece : L2.Binds K d_L_piece ["_law_deck_here", "_law_pool"] []
  a_L_all_within : Addr
  d_L_all_within : FuncData
  F_L_all_within : Fun K "_law_all_within" "_law_all_within" s_L_all_within a_L_all_within d_L_all_within
  g_L_all_within : mg "_law_all_within" = some (.ref a_L_all_within)
  bd_L_all_within : L2.Binds K d_L_all_within ["_law_written"] []
  a_places_in : Addr
  d_places_in : FuncData
  F_places_in : Fun K "places_in" "places_in" s_places_in a_places_in d_places_in
  g_places_in : mg "places_in" = some (.ref a_places_in)
  bd_places_in : L2.Binds K d_places_in ["text"] []
  a_names_in : Addr
  d_names_in : FuncData
  F_names_in : Fun K "names_in" "names_in" s_names_in a_names_in d_names_in
  g_names_in : mg "names_in" = some (.ref a_names_in)
  bd_names_in : L2.Binds K d_names_in ["text"] []
  a_law : Addr
  d_law : FuncData
  F_law : Fun K "law" "law" s_law a_law d_law
  g_law : mg "law" = some (.ref a_law)
  bd_law : L2.Binds K d_law ["_law_script"] []
  k_names_in_text : ∀ (s : Shared) (ws r : List Value), K.In s.heap → ws.length = 1 → laid [] ws [] [.k 0] = some r → BindsTo s d_names_in ⟨[], ((["text"] : List Str)).zip ws⟩ (((["text"] : List Str)).zip r)
section
variable {P : Program} {w : World} {K : PySem.W.Frag} {mg : Str → Option Value} {base : Heap}
theorem ok_is_label (T : Txt K mg) : FnM P w K mg base 1 T.a_is_label T.d_is_label ["thing"] f_is_label := by
  show FnM P w K mg base 1 T.a_is_label T.d_is_label ["thing"] (fnM N_is_label.length m_is_label)
  refine fn_m (m := m_is_label) T.F_is_label sc_is_label fun cdv A outer s H E hr gd tk pa => ?_
  exact pmb_one (pms_ret (pm_and (pm_callB .frz c_isi (by rfl) T.b_isinstance (by decide +kernel) (pl_cons (pm_var 0) (pl_cons (pm_ty (by rfl) T.b_str (by decide +kernel)) (pl_nil)))) (pm_and (pm_chain o_le o_le (pm_int) (pm_callB .frz c_len (by rfl) T.b_len PySem.boot_len (pl_cons (pm_var 0) (pl_nil))) (pm_globI (by rfl) T.c_LONGEST_LABEL)) (pm_one (pm_callB .frz (c_all rfl) (by rfl) T.b_all (by decide +kernel) (pl_cons (pm_lc (own := [("sign", 1)]) .frz rfl sc_is_label.nd (pim_seq (pm_var 0)) (blkOk_by (own := [("sign", 1)]) (N := N_is_label) (sc := defScope s_is_label) (by decide +kernel)) (fun _ _ _ _ _ => pmg_name (i := 1) sc_is_label.nd rfl (by first | exact Or.inl rfl | exact Or.inr rfl)) (fun _ _ _ _ _ => ptm_nil) (fun _ _ _ _ _ => show PM _ _ _ e_is_label_1 from pm_cmp (o_in (units65 hr)) (by first | rfl | exact nomark _) (pm_var 1) (pm_globS (by rfl) T.c_LETTERS)) (by decide)) (pl_nil)))))))
theorem ok_is_mark (T : Txt K mg) : FnM P w K mg base 1 T.a_is_mark T.d_is_mark ["thing"] f_is_mark := by
  show FnM P w K mg base 1 T.a_is_mark T.d_is_mark ["thing"] (fnM N_is_mark.length m_is_mark)
  refine fn_m (m := m_is_mark) T.F_is_mark sc_is_mark fun cdv A outer s H E hr gd tk pa => ?_
  exact pmb_one (pms_ret (pm_and (pm_callB .frz c_isi (by rfl) T.b_isinstance (by decide +kernel) (pl_cons (pm_var 0) (pl_cons (pm_ty (by rfl) T.b_str (by decide +kernel)) (pl_nil)))) (pm_and (pm_cmp (o_eq hr.units) (nomark _) (pm_callB .frz c_len (by rfl) T.b_len PySem.boot_len (pl_cons (pm_var 0) (pl_nil))) (pm_globI (by rfl) T.c_LONG)) (pm_one (pm_callB .frz (c_all rfl) (by rfl) T.b_all (by decide +kernel) (pl_cons (pm_lc (own := [("sign", 1)]) .frz rfl sc_is_mark.nd (pim_seq (pm_var 0)) (blkOk_by (own := [("sign", 1)]) (N := N_is_mark) (sc := defScope s_is_mark) (by decide +kernel)) (fun _ _ _ _ _ => pmg_name (i := 1) sc_is_mark.nd rfl (by first | exact Or.inl rfl | exact Or.inr rfl)) (fun _ _ _ _ _ => ptm_nil) (fun _ _ _ _ _ => show PM _ _ _ e_is_mark_1 from pm_cmp (o_in (units65 hr)) (by first | rfl | exact nomark _) (pm_var 1) (pm_globS (by rfl) T.c_FIGURES)) (by decide)) (pl_nil)))))))
theorem ok_mark_in (T : Txt K mg) : FnM P w K mg base 1 T.a_mark_in T.d_mark_in ["name"] f_mark_in := by
  show FnM P w K mg base 1 T.a_mark_in T.d_mark_in ["name"] (fnM N_mark_in.length m_mark_in)
  refine fn_m (m := m_mark_in) T.F_mark_in sc_mark_in fun cdv A outer s H E hr gd tk pa => ?_
  exact pmb_one (pms_ret (pm_sl .frz (pm_var 0) (pmo_some (pm_int)) (pmo_some (pm_globI (by rfl) T.c_AT))))
theorem ok_label_in (T : Txt K mg) : FnM P w K mg base 1 T.a_label_in T.d_label_in ["name"] f_label_in := by
  show FnM P w K mg base 1 T.a_label_in T.d_label_in ["name"] (fnM N_label_in.length m_label_in)
  refine fn_m (m := m_label_in) T.F_label_in sc_label_in fun cdv A outer s H E hr gd tk pa => ?_
  exact pmb_one (pms_ret (pm_sl .frz (pm_var 0) (pmo_some (pm_bin .frz o_add (pm_globI (by rfl) T.c_AT) (pm_int))) (pmo_some (pm_neg (pm_int)))))
theorem ok_L_deck (T : Txt K mg) : FnM P w K mg base 1 T.a_L_deck T.d_L_deck ["_law_script"] f_L_deck := by
  show FnM P w K mg base 1 T.a_L_deck T.d_L_deck ["_law_script"] (fnM N_L_deck.length m_L_deck)
  refine fn_m (m := m_L_deck) T.F_L_deck sc_L_deck fun cdv A outer s H E hr gd tk pa => ?_
  exact pmb_cons (pms_set (i := 1) sc_L_deck.nd rfl (by first | exact Or.inl rfl | exact Or.inr rfl) (pm_callTy .frz (c_list rfl) (by rfl) T.b_list (by decide +kernel) (pl_cons (pm_sl .frz (pm_var 0) (pmo_none) (pmo_some (pm_int))) (pl_nil))))
    (pmb_one (pms_ret (pm_lst .ref (pl_cons (pm_rev .ref (pm_var 1)) (pl_cons (pm_bin .frz o_add (pm_callB .frz (c_sum rfl) (by rfl) T.b_sum (by decide +kernel) (pl_cons (pm_lc (own := [("_law_cell", 2)]) .frz rfl sc_L_deck.nd (pim_seq (pm_var 1)) (blkOk_by (own := [("_law_cell", 2)]) (N := N_L_deck) (sc := defScope s_L_deck) (by decide +kernel)) (fun _ _ _ _ _ => pmg_name (i := 2) sc_L_deck.nd rfl (by first | exact Or.inl rfl | exact Or.inr rfl)) (fun _ _ _ _ _ => ptm_nil) (fun _ _ _ _ _ => show PM _ _ _ e_L_deck_1 from pm_bin .frz o_mod (pm_var 2) (pm_int)) (by decide)) (pl_nil))) (pm_bin .frz o_mul (pm_int) (pm_callB .frz c_len (by rfl) T.b_len PySem.boot_len (pl_cons (pm_var 1) (pl_nil))))) (pl_cons (pm_int) (pl_nil)))))))
theorem ok_L_draw (T : Txt K mg) : FnM P w K mg base 1 T.a_L_draw T.d_L_draw ["_law_deck_here", "_law_many"] f_L_draw := by
  show FnM P w K mg base 1 T.a_L_draw T.d_L_draw ["_law_deck_here", "_law_many"] (fnM N_L_draw.length m_L_draw)
  refine fn_m (m := m_L_draw) T.F_L_draw sc_L_draw fun cdv A outer s H E hr gd tk pa => ?_
  exact pmb_cons (pms_setIx (pm_bin .frz o_add (pm_ix (pm_var 0) (pm_int)) (pm_int)) (pm_var 0) (pm_int))
    (pmb_cons (pms_set (i := 2) sc_L_draw.nd rfl (by first | exact Or.inl rfl | exact Or.inr rfl) (pm_ix (pm_var 0) (pm_int)))
    (pmb_cons (pms_if (pb_cmp (o_ne hr.units) (nomark _) (pm_ix (pm_var 0) (pm_int)) (pm_lst .frz (pl_nil))) (pmb_cons (pms_set (i := 2) sc_L_draw.nd rfl (by first | exact Or.inl rfl | exact Or.inr rfl) (pm_bu0 PySem.F.plainAttrs_list PySem.F.slot_list_pop PySem.F.type_list_pop u_pop (pm_ix (pm_var 0) (pm_int))))
    (pmb_one (pms_if (pb_cmp o_ge (nomark _) (pm_var 2) (pm_bin .frz o_pow (pm_int) (pm_int))) (pmb_cons (pms_expr (pm_bu PySem.F.plainAttrs_list PySem.F.slot_list_append PySem.F.type_list_append u_append (pm_ix (pm_var 0) (pm_int)) (pl_cons (pm_bin .frz o_fdiv (pm_var 2) (pm_var 1)) (pl_nil))))
    (pmb_one (pms_ret (pm_bin .frz o_mod (pm_var 2) (pm_var 1))))) (pmb_nil)))) (pmb_nil))
    (pmb_cons (pms_set (i := 3) sc_L_draw.nd rfl (by first | exact Or.inl rfl | exact Or.inr rfl) (pm_bin .frz o_mod (pm_bin .frz o_mul (pm_bin .frz o_add (pm_bin .frz o_add (pm_bin .frz o_mod (pm_var 2) (pm_int)) (pm_bin .frz o_mul (pm_int) (pm_ix (pm_var 0) (pm_int)))) (pm_int)) (pm_int)) (pm_int)))
    (pmb_cons (pms_set (i := 3) sc_L_draw.nd rfl (by first | exact Or.inl rfl | exact Or.inr rfl) (pm_bin .frz o_mod (pm_bin .frz o_add (pm_bin .frz o_add (pm_bin .frz o_mul (pm_var 3) (pm_var 3)) (pm_bin .frz o_mul (pm_int) (pm_ix (pm_var 0) (pm_int)))) (pm_int)) (pm_int)))
    (pmb_one (pms_ret (pm_bin .frz o_mod (pm_bin .frz o_fdiv (pm_bin .frz o_mod (pm_bin .frz o_add (pm_bin .frz o_mul (pm_var 3) (pm_var 3)) (pm_bin .frz o_mul (pm_int) (pm_var 3))) (pm_int)) (pm_int)) (pm_var 1))))))))
theorem ok_L_is_word (T : Txt K mg) : FnM P w K mg base 1 T.a_L_is_word T.d_L_is_word ["_law_it"] f_L_is_word := by
  show FnM P w K mg base 1 T.a_L_is_word T.d_L_is_word ["_law_it"] (fnM N_L_is_word.length m_L_is_word)
  refine fn_m (m := m_L_is_word) T.F_L_is_word sc_L_is_word fun cdv A outer s H E hr gd tk pa => ?_
  exact pmb_cons (pms_if (pwb (pw_orM (pb_not (pb_of (pm_callB .frz c_isi (by rfl) T.b_isinstance (by decide +kernel) (pl_cons (pm_var 0) (pl_cons (pm_ty (by rfl) T.b_str (by decide +kernel)) (pl_nil)))))) (pw_orM1 (pb_not (pb_chain o_le o_le (pm_int) (pm_callB .frz c_len (by rfl) T.b_len PySem.boot_len (pl_cons (pm_var 0) (pl_nil))) (pm_int)))))) (pmb_one (pms_ret (pm_bl))) (pmb_nil))
    (pmb_one (pms_ret (pm_cmp (o_eq hr.units) (nomark _) (pm_lc (own := [("_law_sign", 1)]) .frz rfl sc_L_is_word.nd (pim_seq (pm_var 0)) (blkOk_by (own := [("_law_sign", 1)]) (N := N_L_is_word) (sc := defScope s_L_is_word) (by decide +kernel)) (fun _ _ _ _ _ => pmg_name (i := 1) sc_L_is_word.nd rfl (by first | exact Or.inl rfl | exact Or.inr rfl)) (fun _ _ _ _ _ => ptm_one (m := t_L_is_word_1) (pb_cmp (o_notIn (units65 hr)) (by first | rfl | exact nomark _) (pm_var 1) (pm_str))) (fun _ _ _ _ _ => pm_var 1) (by decide)) (pm_lst .frz (pl_nil)))))
theorem ok_L_is_mark (T : Txt K mg) : FnM P w K mg base 1 T.a_L_is_mark T.d_L_is_mark ["_law_it"] f_L_is_mark := by
  show FnM P w K mg base 1 T.a_L_is_mark T.d_L_is_mark ["_law_it"] (fnM N_L_is_mark.length m_L_is_mark)
  refine fn_m (m := m_L_is_mark) T.F_L_is_mark sc_L_is_mark fun cdv A outer s H E hr gd tk pa => ?_
  exact pmb_cons (pms_if (pwb (pw_orM (pb_not (pb_of (pm_callB .frz c_isi (by rfl) T.b_isinstance (by decide +kernel) (pl_cons (pm_var 0) (pl_cons (pm_ty (by rfl) T.b_str (by decide +kernel)) (pl_nil)))))) (pw_orM1 (pb_cmp (o_ne hr.units) (nomark _) (pm_callB .frz c_len (by rfl) T.b_len PySem.boot_len (pl_cons (pm_var 0) (pl_nil))) (pm_int))))) (pmb_one (pms_ret (pm_bl))) (pmb_nil))
    (pmb_one (pms_ret (pm_cmp (o_eq hr.units) (nomark _) (pm_lc (own := [("_law_sign", 1)]) .frz rfl sc_L_is_mark.nd (pim_seq (pm_var 0)) (blkOk_by (own := [("_law_sign", 1)]) (N := N_L_is_mark) (sc := defScope s_L_is_mark) (by decide +kernel)) (fun _ _ _ _ _ => pmg_name (i := 1) sc_L_is_mark.nd rfl (by first | exact Or.inl rfl | exact Or.inr rfl)) (fun _ _ _ _ _ => ptm_one (m := t_L_is_mark_1) (pb_cmp (o_notIn (units65 hr)) (by first | rfl | exact nomark _) (pm_var 1) (pm_str))) (fun _ _ _ _ _ => pm_var 1) (by decide)) (pm_lst .frz (pl_nil)))))
theorem ok_L_called (T : Txt K mg) : FnM P w K mg base 1 T.a_L_called T.d_L_called ["_law_mark", "_law_word"] f_L_called := by
  show FnM P w K mg base 1 T.a_L_called T.d_L_called ["_law_mark", "_law_word"] (fnM N_L_called.length m_L_called)
  refine fn_m (m := m_L_called) T.F_L_called sc_L_called fun cdv A outer s H E hr gd tk pa => ?_
  exact pmb_one (pms_ret (pm_bin .frz o_add (pm_bin .frz o_add (pm_bin .frz o_add (pm_bin .frz o_add (pm_str) (pm_var 0)) (pm_str)) (pm_var 1)) (pm_str)))
theorem ok_is_name (T : Txt K mg) : FnM P w K mg base 2 T.a_is_name T.d_is_name ["thing"] f_is_name := by
  show FnM P w K mg base 2 T.a_is_name T.d_is_name ["thing"] (fnM N_is_name.length m_is_name)
  refine fn_m (m := m_is_name) T.F_is_name sc_is_name fun cdv A outer s H E hr gd tk pa => ?_
  exact pmb_cons (pms_if (pwb (pw_orM (pb_not (pb_of (pm_callB .frz c_isi (by rfl) T.b_isinstance (by decide +kernel) (pl_cons (pm_var 0) (pl_cons (pm_ty (by rfl) T.b_str (by decide +kernel)) (pl_nil)))))) (pw_orM (pb_cmp o_le (nomark _) (pm_callB .frz c_len (by rfl) T.b_len PySem.boot_len (pl_cons (pm_var 0) (pl_nil))) (pm_bin .frz o_add (pm_globI (by rfl) T.c_AT) (pm_int))) (pw_orM1 (pb_cmp (o_ne hr.units) (nomark _) (pm_ix (pm_var 0) (pm_globI (by rfl) T.c_AT)) (pm_globS (by rfl) T.c_BETWEEN)))))) (pmb_one (pms_ret (pm_bl))) (pmb_nil))
    (pmb_cons (pms_if (pwb (pw_orM (pb_not (pb_of (pm_bm .frz PySem.F.plainAttrs_str PySem.F.slot_str_startswith PySem.F.type_str_startswith m_starts (pm_var 0) (pl_cons (pm_globS (by rfl) T.c_BEGIN) (pl_nil))))) (pw_orM1 (pb_not (pb_of (pm_bm .frz PySem.F.plainAttrs_str PySem.F.slot_str_endswith PySem.F.type_str_endswith m_ends (pm_var 0) (pl_cons (pm_globS (by rfl) T.c_END) (pl_nil)))))))) (pmb_one (pms_ret (pm_bl))) (pmb_nil))
    (pmb_one (pms_ret (pm_and (pm_call (ok_is_mark T) (hr.mono (by decide)) gd tk (by rfl) T.g_is_mark T.F_is_mark.kp T.bd_is_mark .nil (fun _ _ => .nil) (pl_cons (pm_sl .frz (pm_var 0) (pmo_some (pm_int)) (pmo_some (pm_globI (by rfl) T.c_AT))) (pl_nil))) (pm_one (pm_call (ok_is_label T) (hr.mono (by decide)) gd tk (by rfl) T.g_is_label T.F_is_label.kp T.bd_is_label .nil (fun _ _ => .nil) (pl_cons (pm_sl .frz (pm_var 0) (pmo_some (pm_bin .frz o_add (pm_globI (by rfl) T.c_AT) (pm_int))) (pmo_some (pm_neg (pm_int)))) (pl_nil))))))))
theorem ok_L_pick (T : Txt K mg) : FnM P w K mg base 2 T.a_L_pick T.d_L_pick ["_law_deck_here", "_law_some"] f_L_pick := by
  show FnM P w K mg base 2 T.a_L_pick T.d_L_pick ["_law_deck_here", "_law_some"] (fnM N_L_pick.length m_L_pick)
  refine fn_m (m := m_L_pick) T.F_L_pick sc_L_pick fun cdv A outer s H E hr gd tk pa => ?_
  exact pmb_one (pms_ret (pm_ix (pm_var 1) (pm_call (ok_L_draw T) (hr.mono (by decide)) gd tk (by rfl) T.g_L_draw T.F_L_draw.kp T.bd_L_draw .nil (fun _ _ => .nil) (pl_cons (pm_var 0) (pl_cons (pm_callB .frz c_len (by rfl) T.b_len PySem.boot_len (pl_cons (pm_var 1) (pl_nil))) (pl_nil))))))
theorem ok_L_words (T : Txt K mg) : FnM P w K mg base 2 T.a_L_words T.d_L_words ["_law_deck_here", "_law_many"] f_L_words := by
  show FnM P w K mg base 2 T.a_L_words T.d_L_words ["_law_deck_here", "_law_many"] (fnM N_L_words.length m_L_words)
  refine fn_m (m := m_L_words) T.F_L_words sc_L_words fun cdv A outer s H E hr gd tk pa => ?_
  exact pmb_cons (pms_set (i := 2) sc_L_words.nd rfl (by first | exact Or.inl rfl | exact Or.inr rfl) (pm_str))
    (pmb_cons ((let hpl := pl_cons (pm_call (ok_L_draw T) (hr.mono (by decide)) gd tk (by rfl) T.g_L_draw T.F_L_draw.kp T.bd_L_draw .nil (fun _ _ => .nil) (pl_cons (pm_var 0) (pl_cons (pm_int) (pl_nil)))) (pl_cons (pm_call (ok_L_draw T) (hr.mono (by decide)) gd tk (by rfl) T.g_L_draw T.F_L_draw.kp T.bd_L_draw .nil (fun _ _ => .nil) (pl_cons (pm_var 0) (pl_cons (pm_int) (pl_nil)))) (pl_nil)); pms_par (i := 3) (j := 4) rfl sc_L_words.nd rfl rfl (by decide) rfl rfl hpl (ps_par (by rfl) sc_L_words.nd rfl rfl (by decide) rfl rfl hpl (by rfl))))
    (pmb_cons (pms_set (i := 5) sc_L_words.nd rfl (by first | exact Or.inl rfl | exact Or.inr rfl) (pm_bm .frz PySem.F.plainAttrs_str PySem.F.slot_str_join PySem.F.type_str_join m_join (pm_str) (pl_cons (pm_lc (own := [("_law_k", 8)]) .frz rfl sc_L_words.nd (pim_range1 (by rfl) T.b_range (pl_cons (pm_int) (pl_nil))) (blkOk_by (own := [("_law_k", 8)]) (N := N_L_words) (sc := defScope s_L_words) (by decide +kernel)) (fun _ _ _ _ _ => pmg_name (i := 8) sc_L_words.nd rfl (by first | exact Or.inl rfl | exact Or.inr rfl)) (fun _ _ _ _ _ => ptm_nil) (fun _ _ _ _ _ => show PM _ _ _ e_L_words_1 from pm_ix (pm_var 2) (pm_call (ok_L_draw T) (hr.mono (by decide)) gd takes0 (by rfl) T.g_L_draw T.F_L_draw.kp T.bd_L_draw .nil (fun _ _ => .nil) (pl_cons (pm_var 0) (pl_cons (pm_int) (pl_nil))))) (by decide)) (pl_nil))))
    (pmb_cons (pms_set (i := 6) sc_L_words.nd rfl (by first | exact Or.inl rfl | exact Or.inr rfl) (pm_call (ok_L_draw T) (hr.mono (by decide)) gd tk (by rfl) T.g_L_draw T.F_L_draw.kp T.bd_L_draw .nil (fun _ _ => .nil) (pl_cons (pm_var 0) (pl_cons (pm_int) (pl_nil)))))
    (pmb_cons (pms_set (i := 7) sc_L_words.nd rfl (by first | exact Or.inl rfl | exact Or.inr rfl) (pm_lst .own (pl_nil)))
    (pmb_cons (pms_for (mb := b_L_words_1) pa rfl (pim_range1 (by rfl) T.b_range (pl_cons (pm_int) (pl_nil))) (pmg_name (i := 8) sc_L_words.nd rfl (by first | exact Or.inl rfl | exact Or.inr rfl)) (pmb_cons (pms_set (i := 9) sc_L_words.nd rfl (by first | exact Or.inl rfl | exact Or.inr rfl) (pm_ix (pm_var 2) (pm_bin .frz o_mod (pm_bin .frz o_add (pm_var 4) (pm_bin .frz o_mul (pm_int) (pm_var 8))) (pm_int))))
    (pmb_cons (pms_set (i := 10) sc_L_words.nd rfl (by first | exact Or.inl rfl | exact Or.inr rfl) (pm_ix (pm_lst .frz (pl_cons (pm_var 9) (pl_cons (pm_bin .frz o_add (pm_bin .frz o_add (pm_sl .frz (pm_var 5) (pmo_none) (pmo_some (pm_var 6))) (pm_var 9)) (pm_sl .frz (pm_var 5) (pmo_some (pm_var 6)) (pmo_none))) (pl_cons (pm_sl .frz (pm_bin .frz o_add (pm_var 5) (pm_var 9)) (pmo_none) (pmo_some (pm_bin .frz o_add (pm_bin .frz o_mod (pm_var 8) (pm_int)) (pm_int)))) (pl_nil))))) (pm_var 3)))
    (pmb_one (pms_if (pb_cmp (o_notIn (units65 hr)) (by first | rfl | exact nomark _) (pm_var 10) (pm_var 7)) (pmb_one (pms_expr (pm_bu PySem.F.plainAttrs_list PySem.F.slot_list_append PySem.F.type_list_append u_append (pm_var 7) (pl_cons (pm_var 10) (pl_nil))))) (pmb_nil))))))
    (pmb_cons (pms_for (mb := b_L_words_2) pa rfl (pim_range1 (by rfl) T.b_range (pl_cons (pm_int) (pl_nil))) (pmg_name (i := 8) sc_L_words.nd rfl (by first | exact Or.inl rfl | exact Or.inr rfl)) (pmb_cons (pms_set (i := 10) sc_L_words.nd rfl (by first | exact Or.inl rfl | exact Or.inr rfl) (pm_bin .frz o_add (pm_str) (pm_ix (pm_var 2) (pm_var 8))))
    (pmb_one (pms_if (pb_cmp (o_notIn (units65 hr)) (by first | rfl | exact nomark _) (pm_var 10) (pm_var 7)) (pmb_one (pms_expr (pm_bu PySem.F.plainAttrs_list PySem.F.slot_list_append PySem.F.type_list_append u_append (pm_var 7) (pl_cons (pm_var 10) (pl_nil))))) (pmb_nil)))))
    (pmb_cons (pms_set (i := 11) sc_L_words.nd rfl (by first | exact Or.inl rfl | exact Or.inr rfl) (pm_sl .own (pm_var 7) (pmo_none) (pmo_some (pm_bin .frz o_add (pm_var 1) (pm_int)))))
    (pmb_one (pms_ret (pm_lc (own := [("_law_k", 8)]) .frz rfl sc_L_words.nd (pim_range1 (by rfl) T.b_range (pl_cons (pm_var 1) (pl_nil))) (blkOk_by (own := [("_law_k", 8)]) (N := N_L_words) (sc := defScope s_L_words) (by decide +kernel)) (fun _ _ _ _ _ => pmg_name (i := 8) sc_L_words.nd rfl (by first | exact Or.inl rfl | exact Or.inr rfl)) (fun _ _ _ _ _ => ptm_nil) (fun _ _ _ _ _ => show PM _ _ _ e_L_words_2 from pm_bu PySem.F.plainAttrs_list PySem.F.slot_list_pop PySem.F.type_list_pop u_pop (pm_var 11) (pl_cons (pm_call (ok_L_draw T) (hr.mono (by decide)) gd takes0 (by rfl) T.g_L_draw T.F_L_draw.kp T.bd_L_draw .nil (fun _ _ => .nil) (pl_cons (pm_var 0) (pl_cons (pm_callB .frz c_len (by rfl) T.b_len PySem.boot_len (pl_cons (pm_var 11) (pl_nil))) (pl_nil)))) (pl_nil))) (by decide)))))))))))
theorem ok_L_is_called (T : Txt K mg) : FnM P w K mg base 2 T.a_L_is_called T.d_L_is_called ["_law_it"] f_L_is_called := by
  show FnM P w K mg base 2 T.a_L_is_called T.d_L_is_called ["_law_it"] (fnM N_L_is_called.length m_L_is_called)
  refine fn_m (m := m_L_is_called) T.F_L_is_called sc_L_is_called fun cdv A outer s H E hr gd tk pa => ?_
  exact pmb_cons (pms_if (pwb (pw_orM (pb_not (pb_of (pm_callB .frz c_isi (by rfl) T.b_isinstance (by decide +kernel) (pl_cons (pm_var 0) (pl_cons (pm_ty (by rfl) T.b_str (by decide +kernel)) (pl_nil)))))) (pw_orM (pb_cmp (o_ne hr.units) (nomark _) (pm_sl .frz (pm_var 0) (pmo_none) (pmo_some (pm_int))) (pm_str)) (pw_orM (pb_cmp (o_ne hr.units) (nomark _) (pm_sl .frz (pm_var 0) (pmo_some (pm_neg (pm_int))) (pmo_none)) (pm_str)) (pw_orM (pb_cmp o_lt (nomark _) (pm_callB .frz c_len (by rfl) T.b_len PySem.boot_len (pl_cons (pm_var 0) (pl_nil))) (pm_int)) (pw_orM1 (pb_cmp (o_ne hr.units) (nomark _) (pm_ix (pm_var 0) (pm_int)) (pm_str)))))))) (pmb_one (pms_ret (pm_bl))) (pmb_nil))
    (pmb_one (pms_ret (pm_and (pm_call (ok_L_is_mark T) (hr.mono (by decide)) gd tk (by rfl) T.g_L_is_mark T.F_L_is_mark.kp T.bd_L_is_mark .nil (fun _ _ => .nil) (pl_cons (pm_sl .frz (pm_var 0) (pmo_some (pm_int)) (pmo_some (pm_int))) (pl_nil))) (pm_one (pm_call (ok_L_is_word T) (hr.mono (by decide)) gd tk (by rfl) T.g_L_is_word T.F_L_is_word.kp T.bd_L_is_word .nil (fun _ _ => .nil) (pl_cons (pm_sl .frz (pm_var 0) (pmo_some (pm_int)) (pmo_some (pm_neg (pm_int)))) (pl_nil)))))))
theorem ok_L_marks (T : Txt K mg) : FnM P w K mg base 2 T.a_L_marks T.d_L_marks ["_law_deck_here"] f_L_marks := by
  show FnM P w K mg base 2 T.a_L_marks T.d_L_marks ["_law_deck_here"] (fnM N_L_marks.length m_L_marks)
  refine fn_m (m := m_L_marks) T.F_L_marks sc_L_marks fun cdv A outer s H E hr gd tk pa => ?_
  exact pmb_cons (pms_set (i := 1) sc_L_marks.nd rfl (by first | exact Or.inl rfl | exact Or.inr rfl) (pm_str))
    (pmb_cons (pms_set (i := 2) sc_L_marks.nd rfl (by first | exact Or.inl rfl | exact Or.inr rfl) (pm_bm .frz PySem.F.plainAttrs_str PySem.F.slot_str_join PySem.F.type_str_join m_join (pm_str) (pl_cons (pm_lc (own := [("_law_k", 5)]) .frz rfl sc_L_marks.nd (pim_range1 (by rfl) T.b_range (pl_cons (pm_int) (pl_nil))) (blkOk_by (own := [("_law_k", 5)]) (N := N_L_marks) (sc := defScope s_L_marks) (by decide +kernel)) (fun _ _ _ _ _ => pmg_name (i := 5) sc_L_marks.nd rfl (by first | exact Or.inl rfl | exact Or.inr rfl)) (fun _ _ _ _ _ => ptm_nil) (fun _ _ _ _ _ => show PM _ _ _ e_L_marks_1 from pm_ix (pm_var 1) (pm_call (ok_L_draw T) (hr.mono (by decide)) gd takes0 (by rfl) T.g_L_draw T.F_L_draw.kp T.bd_L_draw .nil (fun _ _ => .nil) (pl_cons (pm_var 0) (pl_cons (pm_int) (pl_nil))))) (by decide)) (pl_nil))))
    (pmb_cons (pms_set (i := 3) sc_L_marks.nd rfl (by first | exact Or.inl rfl | exact Or.inr rfl) (pm_call (ok_L_draw T) (hr.mono (by decide)) gd tk (by rfl) T.g_L_draw T.F_L_draw.kp T.bd_L_draw .nil (fun _ _ => .nil) (pl_cons (pm_var 0) (pl_cons (pm_int) (pl_nil)))))
    (pmb_cons (pms_set (i := 4) sc_L_marks.nd rfl (by first | exact Or.inl rfl | exact Or.inr rfl) (pm_ix (pm_var 1) (pm_bin .frz o_mod (pm_bin .frz o_add (pm_index rfl tk (pm_var 1) (pl_cons (pm_ix (pm_var 2) (pm_var 3)) (pl_nil))) (pm_int)) (pm_int))))
    (pmb_one (pms_ret (pm_lst .frz (pl_cons (pm_var 2) (pl_cons (pm_bin .frz o_add (pm_bin .frz o_add (pm_sl .frz (pm_var 2) (pmo_none) (pmo_some (pm_var 3))) (pm_var 4)) (pm_sl .frz (pm_var 2) (pmo_some (pm_bin .frz o_add (pm_var 3) (pm_int))) (pmo_none))) (pl_cons (pm_str) (pl_nil))))))))))
theorem ok_name_at (T : Txt K mg) : FnM P w K mg base 3 T.a_name_at T.d_name_at ["text", "at"] f_name_at := by
  show FnM P w K mg base 3 T.a_name_at T.d_name_at ["text", "at"] (fnM N_name_at.length m_name_at)
  refine fn_m (m := m_name_at) T.F_name_at sc_name_at fun cdv A outer s H E hr gd tk pa => ?_
  exact pmb_cons (pms_asg (pm_bm .frz PySem.F.plainAttrs_str PySem.F.slot_str_partition PySem.F.type_str_partition m_part (pm_sl .frz (pm_var 0) (pmo_some (pm_var 1)) (pmo_some (pm_bin .frz o_add (pm_var 1) (pm_globI (by rfl) T.c_LONGEST)))) (pl_cons (pm_globS (by rfl) T.c_END) (pl_nil))) (pmg_tup rfl (pmgs_cons (pmg_name (i := 2) sc_name_at.nd rfl (by first | exact Or.inl rfl | exact Or.inr rfl)) (pmgs_cons (pmg_name (i := 3) sc_name_at.nd rfl (by first | exact Or.inl rfl | exact Or.inr rfl)) (pmgs_cons (pmg_name (i := 4) sc_name_at.nd rfl (by first | exact Or.inl rfl | exact Or.inr rfl)) (pmgs_nil))))))
    (pmb_one (pms_ret (pm_if (pb_of (pm_call (ok_is_name T) (hr.mono (by decide)) gd tk (by rfl) T.g_is_name T.F_is_name.kp T.bd_is_name .nil (fun _ _ => .nil) (pl_cons (pm_bin .frz o_add (pm_var 2) (pm_var 3)) (pl_nil)))) (pm_bin .frz o_add (pm_var 2) (pm_var 3)) (pm_non))))
theorem ok_L_piece (T : Txt K mg) : FnM P w K mg base 3 T.a_L_piece T.d_L_piece ["_law_deck_here", "_law_pool"] f_L_piece := by
  show FnM P w K mg base 3 T.a_L_piece T.d_L_piece ["_law_deck_here", "_law_pool"] (fnM N_L_piece.length m_L_piece)
  refine fn_m (m := m_L_piece) T.F_L_piece sc_L_piece fun cdv A outer s H E hr gd tk pa => ?_
  exact pmb_cons ((let hpl := pl_cons (pm_call (ok_L_draw T) (hr.mono (by decide)) gd tk (by rfl) T.g_L_draw T.F_L_draw.kp T.bd_L_draw .nil (fun _ _ => .nil) (pl_cons (pm_var 0) (pl_cons (pm_int) (pl_nil)))) (pl_cons (pm_call (ok_L_pick T) (hr.mono (by decide)) gd tk (by rfl) T.g_L_pick T.F_L_pick.kp T.bd_L_pick .nil (fun _ _ => .nil) (pl_cons (pm_var 0) (pl_cons (pm_var 1) (pl_nil)))) (pl_nil)); pms_par (i := 2) (j := 3) rfl sc_L_piece.nd rfl rfl (by decide) rfl rfl hpl (ps_par (by rfl) sc_L_piece.nd rfl rfl (by decide) rfl rfl hpl (by rfl))))
    (pmb_cons (pms_set (i := 4) sc_L_piece.nd rfl (by first | exact Or.inl rfl | exact Or.inr rfl) (pm_call (ok_L_draw T) (hr.mono (by decide)) gd tk (by rfl) T.g_L_draw T.F_L_draw.kp T.bd_L_draw .nil (fun _ _ => .nil) (pl_cons (pm_var 0) (pl_cons (pm_callB .frz c_len (by rfl) T.b_len PySem.boot_len (pl_cons (pm_var 3) (pl_nil))) (pl_nil)))))
    (pmb_cons (pms_set (i := 5) sc_L_piece.nd rfl (by first | exact Or.inl rfl | exact Or.inr rfl) (pm_ix (pm_str) (pm_call (ok_L_draw T) (hr.mono (by decide)) gd tk (by rfl) T.g_L_draw T.F_L_draw.kp T.bd_L_draw .nil (fun _ _ => .nil) (pl_cons (pm_var 0) (pl_cons (pm_int) (pl_nil))))))
    (pmb_cons (pms_set (i := 6) sc_L_piece.nd rfl (by first | exact Or.inl rfl | exact Or.inr rfl) (pm_lst .frz (pl_cons (pm_var 3) (pl_cons (pm_var 3) (pl_cons (pm_var 3) (pl_cons (pm_bin .frz o_add (pm_sl .frz (pm_var 3) (pmo_none) (pmo_some (pm_var 4))) (pm_sl .frz (pm_var 3) (pmo_some (pm_bin .frz o_add (pm_var 4) (pm_int))) (pmo_none))) (pl_cons (pm_bin .frz o_add (pm_bin .frz o_add (pm_sl .frz (pm_var 3) (pmo_none) (pmo_some (pm_var 4))) (pm_var 5)) (pm_sl .frz (pm_var 3) (pmo_some (pm_var 4)) (pmo_none))) (pl_cons (pm_bin .frz o_add (pm_bin .frz o_add (pm_sl .frz (pm_var 3) (pmo_none) (pmo_some (pm_var 4))) (pm_var 5)) (pm_sl .frz (pm_var 3) (pmo_some (pm_bin .frz o_add (pm_var 4) (pm_int))) (pmo_none))) (pl_nil)))))))))
    (pmb_one (pms_ret (pm_ix (pm_bin .frz o_add (pm_var 6) (pm_lst .frz (pl_cons (pm_var 5) (pl_cons (pm_bin .frz o_mul (pm_str) (pm_call (ok_L_draw T) (hr.mono (by decide)) gd tk (by rfl) T.g_L_draw T.F_L_draw.kp T.bd_L_draw .nil (fun _ _ => .nil) (pl_cons (pm_var 0) (pl_cons (pm_int) (pl_nil))))) (pl_cons (pm_sl .frz (pm_var 3) (pmo_none) (pmo_some (pm_var 4))) (pl_nil)))))) (pm_var 2)))))))
theorem ok_L_all_within (T : Txt K mg) : FnM P w K mg base 3 T.a_L_all_within T.d_L_all_within ["_law_written"] f_L_all_within := by
  show FnM P w K mg base 3 T.a_L_all_within T.d_L_all_within ["_law_written"] (fnM N_L_all_within.length m_L_all_within)
  refine fn_m (m := m_L_all_within) T.F_L_all_within sc_L_all_within fun cdv A outer s H E hr gd tk pa => ?_
  exact pmb_cons (pms_set (i := 1) sc_L_all_within.nd rfl (by first | exact Or.inl rfl | exact Or.inr rfl) (pm_lst .frz (pl_nil)))
    (pmb_cons (pms_for (mb := b_L_all_within_1) pa rfl (pim_enum (by rfl) T.b_enumerate (pl_cons (pm_var 0) (pl_nil))) (pmg_tup rfl (pmgs_cons (pmg_name (i := 2) sc_L_all_within.nd rfl (by first | exact Or.inl rfl | exact Or.inr rfl)) (pmgs_cons (pmg_name (i := 3) sc_L_all_within.nd rfl (by first | exact Or.inl rfl | exact Or.inr rfl)) (pmgs_nil)))) (pmb_one (pms_if (pb_cmp (o_eq hr.units) (nomark _) (pm_var 3) (pm_str)) (pmb_cons (pms_setLc (own := [("_law_size", 5)]) (i := 4) .frz rfl sc_L_all_within.nd rfl rfl (sw_true rfl rfl rfl (by decide +kernel)) (pim_range2 (by rfl) T.b_range (pl_cons (pm_int) (pl_cons (pm_int) (pl_nil)))) (blkOk_by (own := [("_law_size", 5)]) (N := N_L_all_within) (sc := defScope s_L_all_within) (by decide +kernel)) (fun _ _ _ _ _ => pmg_name (i := 5) sc_L_all_within.nd rfl (by first | exact Or.inl rfl | exact Or.inr rfl)) (fun _ _ _ _ _ => ptm_one (m := t_L_all_within_1) (pb_cmp o_le (nomark _) (pm_bin .frz o_add (pm_var 2) (pm_var 5)) (pm_callB .frz c_len (by rfl) T.b_len PySem.boot_len (pl_cons (pm_var 0) (pl_nil))))) (fun _ _ _ _ _ => show PM _ _ _ e_L_all_within_1 from pm_sl .frz (pm_var 0) (pmo_some (pm_var 2)) (pmo_some (pm_bin .frz o_add (pm_var 2) (pm_var 5)))) (by decide))
    (pmb_one (pms_set (i := 1) sc_L_all_within.nd rfl (by first | exact Or.inl rfl | exact Or.inr rfl) (pm_bin .frz o_add (pm_var 1) (pm_lc (own := [("_law_one", 6)]) .frz rfl sc_L_all_within.nd (pim_seq (pm_var 4)) (blkOk_by (own := [("_law_one", 6)]) (N := N_L_all_within) (sc := defScope s_L_all_within) (by decide +kernel)) (fun _ _ _ _ _ => pmg_name (i := 6) sc_L_all_within.nd rfl (by first | exact Or.inl rfl | exact Or.inr rfl)) (fun _ _ _ _ _ => ptm_one (m := t_L_all_within_2) (pb_of (pm_call (ok_L_is_called T) (hr.mono (by decide)) gd takes0 (by rfl) T.g_L_is_called T.F_L_is_called.kp T.bd_L_is_called .nil (fun _ _ => .nil) (pl_cons (pm_var 6) (pl_nil))))) (fun _ _ _ _ _ => pm_var 6) (by decide)))))) (pmb_nil))))
    (pmb_one (pms_ret (pm_callTy .frz (c_tuple rfl) (by rfl) T.b_tuple (by decide +kernel) (pl_cons (pm_sortSet .frz rfl (units70 hr) (by rfl) T.b_sorted (by rfl) T.b_set (pl_cons (pm_var 1) (pl_nil))) (pl_nil))))))
theorem ok_places_in (T : Txt K mg) : FnM P w K mg base 4 T.a_places_in T.d_places_in ["text"] f_places_in := by
  show FnM P w K mg base 4 T.a_places_in T.d_places_in ["text"] (fnM N_places_in.length m_places_in)
  refine fn_m (m := m_places_in) T.F_places_in sc_places_in fun cdv A outer s H E hr gd tk pa => ?_
  exact pmb_cons (pms_setLc (own := [("at", 2), ("sign", 3)]) (i := 1) .frz rfl sc_places_in.nd rfl rfl (sw_true rfl rfl rfl (by decide +kernel)) (pim_enum (by rfl) T.b_enumerate (pl_cons (pm_var 0) (pl_nil))) (blkOk_by (own := [("at", 2), ("sign", 3)]) (N := N_places_in) (sc := defScope s_places_in) (by decide +kernel)) (fun _ _ _ _ _ => pmg_tup rfl (pmgs_cons (pmg_name (i := 2) sc_places_in.nd rfl (by first | exact Or.inl rfl | exact Or.inr rfl)) (pmgs_cons (pmg_name (i := 3) sc_places_in.nd rfl (by first | exact Or.inl rfl | exact Or.inr rfl)) (pmgs_nil)))) (fun _ _ _ _ _ => ptm_one (m := t_places_in_1) (pb_cmp (o_eq hr.units) (nomark _) (pm_var 3) (pm_globS (by rfl) T.c_BEGIN))) (fun _ _ _ _ _ => show PM _ _ _ e_places_in_1 from pm_tup (pl_cons (pm_var 2) (pl_cons (pm_call (ok_name_at T) (hr.mono (by decide)) gd takes0 (by rfl) T.g_name_at T.F_name_at.kp T.bd_name_at .nil (fun _ _ => .nil) (pl_cons (pm_var 0) (pl_cons (pm_var 2) (pl_nil)))) (pl_nil)))) (by decide))
    (pmb_one (pms_ret (pm_lc (own := [("at", 2), ("name", 4)]) .frz rfl sc_places_in.nd (pim_seq (pm_var 1)) (blkOk_by (own := [("at", 2), ("name", 4)]) (N := N_places_in) (sc := defScope s_places_in) (by decide +kernel)) (fun _ _ _ _ _ => pmg_tup rfl (pmgs_cons (pmg_name (i := 2) sc_places_in.nd rfl (by first | exact Or.inl rfl | exact Or.inr rfl)) (pmgs_cons (pmg_name (i := 4) sc_places_in.nd rfl (by first | exact Or.inl rfl | exact Or.inr rfl)) (pmgs_nil)))) (fun _ _ _ _ _ => ptm_one (m := t_places_in_2) (pb_cmp o_isnot (nomark _) (pm_var 4) (pm_non))) (fun _ _ _ _ _ => show PM _ _ _ e_places_in_2 from pm_tup (pl_cons (pm_var 2) (pl_cons (pm_var 4) (pl_nil)))) (by decide))))
theorem ok_names_in (T : Txt K mg) : FnM P w K mg base 5 T.a_names_in T.d_names_in ["text"] f_names_in := by
  show FnM P w K mg base 5 T.a_names_in T.d_names_in ["text"] (fnM N_names_in.length m_names_in)
  refine fn_m (m := m_names_in) T.F_names_in sc_names_in fun cdv A outer s H E hr gd tk pa => ?_
  exact pmb_one (pms_ret (pm_callTy .frz (c_tuple rfl) (by rfl) T.b_tuple (by decide +kernel) (pl_cons (pm_sortSc (own := [("at", 1), ("name", 2)]) .frz rfl (units70 hr) (by rfl) T.b_sorted sc_names_in.nd (pim_seq (pm_call (ok_places_in T) (hr.mono (by decide)) gd tk (by rfl) T.g_places_in T.F_places_in.kp T.bd_places_in .nil (fun _ _ => .nil) (pl_cons (pm_var 0) (pl_nil)))) (blkOk_by (own := [("at", 1), ("name", 2)]) (N := N_names_in) (sc := defScope s_names_in) (by decide +kernel)) (fun _ _ _ _ _ => pmg_tup rfl (pmgs_cons (pmg_name (i := 1) sc_names_in.nd rfl (by first | exact Or.inl rfl | exact Or.inr rfl)) (pmgs_cons (pmg_name (i := 2) sc_names_in.nd rfl (by first | exact Or.inl rfl | exact Or.inr rfl)) (pmgs_nil)))) (fun _ _ _ _ _ => ptm_nil) (fun _ _ _ _ _ => pm_var 2) (by decide)) (pl_nil))))
theorem ok_law (T : Txt K mg) : FnM P w K mg base 6 T.a_law T.d_law ["_law_script"] f_law := by
  show FnM P w K mg base 6 T.a_law T.d_law ["_law_script"] (fnM N_law.length m_law)
  refine fn_m (m := m_law) T.F_law sc_law fun cdv A outer s H E hr gd tk pa => ?_
  exact pmb_cons (pms_set (i := 1) sc_law.nd rfl (by first | exact Or.inl rfl | exact Or.inr rfl) (pm_call (ok_L_deck T) (hr.mono (by decide)) gd tk (by rfl) T.g_L_deck T.F_L_deck.kp T.bd_L_deck .nil (fun _ _ => .nil) (pl_cons (pm_var 0) (pl_nil))))
    (pmb_cons (pms_set (i := 2) sc_law.nd rfl (by first | exact Or.inl rfl | exact Or.inr rfl) (pm_lst .own (pl_nil)))
    (pmb_cons (pms_for (mb := b_law_1) pa rfl (pim_range1 (by rfl) T.b_range (pl_cons (pm_int) (pl_nil))) (pmg_name (i := 3) sc_law.nd rfl (by first | exact Or.inl rfl | exact Or.inr rfl)) (pmb_cons (pms_set (i := 4) sc_law.nd rfl (by first | exact Or.inl rfl | exact Or.inr rfl) (pm_cmp (o_eq hr.units) (nomark _) (pm_call (ok_L_draw T) (hr.mono (by decide)) gd tk (by rfl) T.g_L_draw T.F_L_draw.kp T.bd_L_draw .nil (fun _ _ => .nil) (pl_cons (pm_var 1) (pl_cons (pm_int) (pl_nil)))) (pm_int)))
    (pmb_cons (pms_asg (pm_call (ok_L_words T) (hr.mono (by decide)) gd tk (by rfl) T.g_L_words T.F_L_words.kp T.bd_L_words .nil (fun _ _ => .nil) (pl_cons (pm_var 1) (pl_cons (pm_int) (pl_nil)))) (pmg_tup rfl (pmgs_cons (pmg_name (i := 5) sc_law.nd rfl (by first | exact Or.inl rfl | exact Or.inr rfl)) (pmgs_cons (pmg_name (i := 6) sc_law.nd rfl (by first | exact Or.inl rfl | exact Or.inr rfl)) (pmgs_nil)))))
    (pmb_cons (pms_set (i := 7) sc_law.nd rfl (by first | exact Or.inl rfl | exact Or.inr rfl) (pm_lc (own := [("_law_one", 12)]) .frz rfl sc_law.nd (pim_seq (pm_call (ok_L_marks T) (hr.mono (by decide)) gd tk (by rfl) T.g_L_marks T.F_L_marks.kp T.bd_L_marks .nil (fun _ _ => .nil) (pl_cons (pm_var 1) (pl_nil)))) (blkOk_by (own := [("_law_one", 12)]) (N := N_law) (sc := defScope s_law) (by decide +kernel)) (fun _ _ _ _ _ => pmg_name (i := 12) sc_law.nd rfl (by first | exact Or.inl rfl | exact Or.inr rfl)) (fun _ _ _ _ _ => ptm_nil) (fun _ _ _ _ _ => show PM _ _ _ e_law_1 from pm_call (ok_L_called T) (hr.mono (by decide)) gd takes0 (by rfl) T.g_L_called T.F_L_called.kp T.bd_L_called .nil (fun _ _ => .nil) (pl_cons (pm_var 12) (pl_cons (pm_var 5) (pl_nil)))) (by decide)))
    (pmb_cons (pms_set (i := 7) sc_law.nd rfl (by first | exact Or.inl rfl | exact Or.inr rfl) (pm_bin .frz o_add (pm_var 7) (pm_lc (own := [("_law_one", 12)]) .frz rfl sc_law.nd (pim_seq (pm_call (ok_L_marks T) (hr.mono (by decide)) gd tk (by rfl) T.g_L_marks T.F_L_marks.kp T.bd_L_marks .nil (fun _ _ => .nil) (pl_cons (pm_var 1) (pl_nil)))) (blkOk_by (own := [("_law_one", 12)]) (N := N_law) (sc := defScope s_law) (by decide +kernel)) (fun _ _ _ _ _ => pmg_name (i := 12) sc_law.nd rfl (by first | exact Or.inl rfl | exact Or.inr rfl)) (fun _ _ _ _ _ => ptm_nil) (fun _ _ _ _ _ => show PM _ _ _ e_law_2 from pm_call (ok_L_called T) (hr.mono (by decide)) gd takes0 (by rfl) T.g_L_called T.F_L_called.kp T.bd_L_called .nil (fun _ _ => .nil) (pl_cons (pm_var 12) (pl_cons (pm_var 6) (pl_nil)))) (by decide))))
    (pmb_cons (pms_setLc (own := [("_law_k", 13)]) (i := 8) .frz rfl sc_law.nd rfl rfl (sw_true rfl rfl rfl (by decide +kernel)) (pim_range1 (by rfl) T.b_range (pl_cons (pm_ix (pm_lst .frz (pl_cons (pm_call (ok_L_draw T) (hr.mono (by decide)) gd tk (by rfl) T.g_L_draw T.F_L_draw.kp T.bd_L_draw .nil (fun _ _ => .nil) (pl_cons (pm_var 1) (pl_cons (pm_int) (pl_nil)))) (pl_cons (pm_int) (pl_nil)))) (pm_callTy .frz c_int (by rfl) T.b_int (by decide +kernel) (pl_cons (pm_var 4) (pl_nil)))) (pl_nil))) (blkOk_by (own := [("_law_k", 13)]) (N := N_law) (sc := defScope s_law) (by decide +kernel)) (fun _ _ _ _ _ => pmg_name (i := 13) sc_law.nd rfl (by first | exact Or.inl rfl | exact Or.inr rfl)) (fun _ _ _ _ _ => ptm_nil) (fun _ _ _ _ _ => show PM _ _ _ e_law_3 from pm_call (ok_L_piece T) (hr.mono (by decide)) gd takes0 (by rfl) T.g_L_piece T.F_L_piece.kp T.bd_L_piece .nil (fun _ _ => .nil) (pl_cons (pm_var 1) (pl_cons (pm_var 7) (pl_nil)))) (by decide))
    (pmb_one (pms_expr (pm_bu PySem.F.plainAttrs_list PySem.F.slot_list_append PySem.F.type_list_append u_append (pm_var 2) (pl_cons (pm_bm .frz PySem.F.plainAttrs_str PySem.F.slot_str_join PySem.F.type_str_join m_join (pm_str) (pl_cons (pm_var 8) (pl_nil))) (pl_nil)))))))))))
    (pmb_cons (pms_for (mb := b_law_2) pa rfl (pim_seq (pm_bin .frz o_add (pm_var 2) (pm_sl .frz (pm_var 2) (pmo_none) (pmo_some (pm_int))))) (pmg_name (i := 9) sc_law.nd rfl (by first | exact Or.inl rfl | exact Or.inr rfl)) (pmb_cons (pms_set (i := 10) sc_law.nd rfl (by first | exact Or.inl rfl | exact Or.inr rfl) (pm_call (ok_L_all_within T) (hr.mono (by decide)) gd tk (by rfl) T.g_L_all_within T.F_L_all_within.kp T.bd_L_all_within .nil (fun _ _ => .nil) (pl_cons (pm_var 9) (pl_nil))))
    (pmb_cons (pms_set (i := 11) sc_law.nd rfl (by first | exact Or.inl rfl | exact Or.inr rfl) (pm_lst .frz (pl_cons (pm_call (ok_names_in T) (hr.mono (by decide)) gd tk (by rfl) T.g_names_in T.F_names_in.kp T.bd_names_in .nil (fun _ _ => .nil) (pl_cons (pm_var 9) (pl_nil))) (pl_cons (pm_callK0 (ks := ["text"]) (ok_names_in T) (hr.mono (by decide)) gd tk (by rfl) T.g_names_in T.F_names_in.kp (T.k_names_in_text) .nil (fun _ _ => .nil) (fun _ _ _ _ h => len_of_cons (fun _ _ _ _ h => len_of_nil h) h) (plk_cons (pm_var 9) (plk_nil))) (pl_cons (pm_call (ok_names_in T) (hr.mono (by decide)) gd tk (by rfl) T.g_names_in T.F_names_in.kp T.bd_names_in .nil (fun _ _ => .nil) (pl_cons (pm_bin .frz o_add (pm_bin .frz o_add (pm_var 9) (pm_str)) (pm_var 9)) (pl_nil))) (pl_nil))))))
    (pmb_cons (pms_if (pb_cmp (o_ne hr.units) (nomark _) (pm_callB .frz (c_repr gd (units128 hr)) (by rfl) T.b_repr (by decide +kernel) (pl_cons (pm_var 11) (pl_nil))) (pm_callB .frz (c_repr gd (units128 hr)) (by rfl) T.b_repr (by decide +kernel) (pl_cons (pm_bin .frz o_mul (pm_lst .frz (pl_cons (pm_var 10) (pl_nil))) (pm_int)) (pl_nil)))) (pmb_one (pms_ret (pm_bl))) (pmb_nil))
    (pmb_one (pms_for (mb := b_law_3) pa rfl (pim_seq (pm_call (ok_names_in T) (hr.mono (by decide)) gd tk (by rfl) T.g_names_in T.F_names_in.kp T.bd_names_in .nil (fun _ _ => .nil) (pl_cons (pm_var 9) (pl_nil)))) (pmg_name (i := 12) sc_law.nd rfl (by first | exact Or.inl rfl | exact Or.inr rfl)) (pmb_one (pms_if (pwb (pw_orM (pb_cmp o_isnot (nomark _) (pm_call (ok_is_name T) (hr.mono (by decide)) gd tk (by rfl) T.g_is_name T.F_is_name.kp T.bd_is_name .nil (fun _ _ => .nil) (pl_cons (pm_var 12) (pl_nil))) (pm_bl)) (pw_orM1 (pb_cmp (o_ne hr.units) (nomark _) (pm_bin .frz o_add (pm_bin .frz o_add (pm_bin .frz o_add (pm_bin .frz o_add (pm_str) (pm_call (ok_mark_in T) (hr.mono (by decide)) gd tk (by rfl) T.g_mark_in T.F_mark_in.kp T.bd_mark_in .nil (fun _ _ => .nil) (pl_cons (pm_var 12) (pl_nil)))) (pm_str)) (pm_call (ok_label_in T) (hr.mono (by decide)) gd tk (by rfl) T.g_label_in T.F_label_in.kp T.bd_label_in .nil (fun _ _ => .nil) (pl_cons (pm_var 12) (pl_nil)))) (pm_str)) (pm_var 12))))) (pmb_one (pms_ret (pm_bl))) (pmb_nil)))))))))
    (pmb_one (pms_ret (pm_bl))))))
end
def txt {K : PySem.W.Frag} {h : Heap} {mg : Str → Option Value} (X : K.In h) (G : h.Ns mainGlobals mg) {t_LETTERS : Tok}
  {t_LONGEST_LABEL : Tok}
  {t_FIGURES : Tok}
  {t_LONG : Tok}
  {t_BEGIN : Tok}
  {t_BETWEEN : Tok}
  {t_END : Tok}
  {t_AT : Tok}
  {t_LONGEST : Tok}
  {a_is_label : Addr} {od_is_label an_is_label : Option Addr} {sl_is_label : Array (Option Value)} {oc_is_label kV_is_label dc_is_label pm_is_label cd_is_label ct_is_label : Value}
  {a_is_mark : Addr} {od_is_mark an_is_mark : Option Addr} {sl_is_mark : Array (Option Value)} {oc_is_mark kV_is_mark dc_is_mark pm_is_mark cd_is_mark ct_is_mark : Value}
  {a_mark_in : Addr} {od_mark_in an_mark_in : Option Addr} {sl_mark_in : Array (Option Value)} {oc_mark_in kV_mark_in dc_mark_in pm_mark_in cd_mark_in ct_mark_in : Value}
  {a_label_in : Addr} {od_label_in an_label_in : Option Addr} {sl_label_in : Array (Option Value)} {oc_label_in kV_label_in dc_label_in pm_label_in cd_label_in ct_label_in : Value}
  {a_L_deck : Addr} {od_L_deck an_L_deck : Option Addr} {sl_L_deck : Array (Option Value)} {oc_L_deck kV_L_deck dc_L_deck pm_L_deck cd_L_deck ct_L_deck : Value}
  {a_L_draw : Addr} {od_L_draw an_L_draw : Option Addr} {sl_L_draw : Array (Option Value)} {oc_L_draw kV_L_draw dc_L_draw pm_L_draw cd_L_draw ct_L_draw : Value}
  {a_L_is_word : Addr} {od_L_is_word an_L_is_word : Option Addr} {sl_L_is_word : Array (Option Value)} {oc_L_is_word kV_L_is_word dc_L_is_word pm_L_is_word cd_L_is_word ct_L_is_word : Value}
  {a_L_is_mark : Addr} {od_L_is_mark an_L_is_mark : Option Addr} {sl_L_is_mark : Array (Option Value)} {oc_L_is_mark kV_L_is_mark dc_L_is_mark pm_L_is_mark cd_L_is_mark ct_L_is_mark : Value}
  {a_L_called : Addr} {od_L_called an_L_called : Option Addr} {sl_L_called : Array (Option Value)} {oc_L_called kV_L_called dc_L_called pm_L_called cd_L_called ct_L_called : Value}
  {a_is_name : Addr} {od_is_name an_is_name : Option Addr} {sl_is_name : Array (Option Value)} {oc_is_name kV_is_name dc_is_name pm_is_name cd_is_name ct_is_name : Value}
  {a_L_pick : Addr} {od_L_pick an_L_pick : Option Addr} {sl_L_pick : Array (Option Value)} {oc_L_pick kV_L_pick dc_L_pick pm_L_pick cd_L_pick ct_L_pick : Value}
  {a_L_words : Addr} {od_L_words an_L_words : Option Addr} {sl_L_words : Array (Option Value)} {oc_L_words kV_L_words dc_L_words pm_L_words cd_L_words ct_L_words : Value}
  {a_L_is_called : Addr} {od_L_is_called an_L_is_called : Option Addr} {sl_L_is_called : Array (Option Value)} {oc_L_is_called kV_L_is_called dc_L_is_called pm_L_is_called cd_L_is_called ct_L_is_called : Value}
  {a_L_marks : Addr} {od_L_marks an_L_marks : Option Addr} {sl_L_marks : Array (Option Value)} {oc_L_marks kV_L_marks dc_L_marks pm_L_marks cd_L_marks ct_L_marks : Value}
  {a_name_at : Addr} {od_name_at an_name_at : Option Addr} {sl_name_at : Array (Option Value)} {oc_name_at kV_name_at dc_name_at pm_name_at cd_name_at ct_name_at : Value}
  {a_L_piece : Addr} {od_L_piece an_L_piece : Option Addr} {sl_L_piece : Array (Option Value)} {oc_L_piece kV_L_piece dc_L_piece pm_L_piece cd_L_piece ct_L_piece : Value}
  {a_L_all_within : Addr} {od_L_all_within an_L_all_within : Option Addr} {sl_L_all_within : Array (Option Value)} {oc_L_all_within kV_L_all_within dc_L_all_within pm_L_all_within cd_L_all_within ct_L_all_within : Value}
  {a_places_in : Addr} {od_places_in an_places_in : Option Addr} {sl_places_in : Array (Option Value)} {oc_places_in kV_places_in dc_places_in pm_places_in cd_places_in ct_places_in : Value}
  {a_names_in : Addr} {od_names_in an_names_in : Option Addr} {sl_names_in : Array (Option Value)} {oc_names_in kV_names_in dc_names_in pm_names_in cd_names_in ct_names_in : Value}
  {a_law : Addr} {od_law an_law : Option Addr} {sl_law : Array (Option Value)} {oc_law kV_law dc_law pm_law cd_law ct_law : Value}
  (h_LETTERS : PySem.W.nsIn K mainGlobals "LETTERS" = some (some (.str k_LETTERS t_LETTERS)))
  (h_LONGEST_LABEL : PySem.W.nsIn K mainGlobals "LONGEST_LABEL" = some (some (.int 8 t_LONGEST_LABEL)))
  (h_FIGURES : PySem.W.nsIn K mainGlobals "FIGURES" = some (some (.str k_FIGURES t_FIGURES)))
  (h_LONG : PySem.W.nsIn K mainGlobals "LONG" = some (some (.int 8 t_LONG)))
  (h_BEGIN : PySem.W.nsIn K mainGlobals "BEGIN" = some (some (.str k_BEGIN t_BEGIN)))
  (h_BETWEEN : PySem.W.nsIn K mainGlobals "BETWEEN" = some (some (.str k_BETWEEN t_BETWEEN)))
  (h_END : PySem.W.nsIn K mainGlobals "END" = some (some (.str k_END t_END)))
  (h_AT : PySem.W.nsIn K mainGlobals "AT" = some (some (.int 9 t_AT)))
  (h_LONGEST : PySem.W.nsIn K mainGlobals "LONGEST" = some (some (.int 19 t_LONGEST)))
  (h_all : PySem.W.nsIn K mainGlobals "all" = some none)
  (h_enumerate : PySem.W.nsIn K mainGlobals "enumerate" = some none)
  (h_int : PySem.W.nsIn K mainGlobals "int" = some none)
  (h_isinstance : PySem.W.nsIn K mainGlobals "isinstance" = some none)
  (h_len : PySem.W.nsIn K mainGlobals "len" = some none)
  (h_list : PySem.W.nsIn K mainGlobals "list" = some none)
  (h_range : PySem.W.nsIn K mainGlobals "range" = some none)
  (h_repr : PySem.W.nsIn K mainGlobals "repr" = some none)
  (h_set : PySem.W.nsIn K mainGlobals "set" = some none)
  (h_sorted : PySem.W.nsIn K mainGlobals "sorted" = some none)
  (h_str : PySem.W.nsIn K mainGlobals "str" = some none)
  (h_sum : PySem.W.nsIn K mainGlobals "sum" = some none)
  (h_tuple : PySem.W.nsIn K mainGlobals "tuple" = some none)
  (g_is_label : PySem.W.nsIn K mainGlobals "is_label" = some (some (.ref a_is_label))) (l_is_label : K.lookup a_is_label = some ⟨oc_is_label, od_is_label, .func (PySem.W.fnOf "is_label" "is_label" (defArgs s_is_label) (defBody s_is_label) (defScope s_is_label) .none kV_is_label dc_is_label pm_is_label an_is_label cd_is_label ct_is_label), sl_is_label⟩) (c_is_label : PySem.W.codeIn K cd_is_label "is_label" = true) (p_is_label : PySem.W.keepIn K (.ref a_is_label) = true)
  (g_is_mark : PySem.W.nsIn K mainGlobals "is_mark" = some (some (.ref a_is_mark))) (l_is_mark : K.lookup a_is_mark = some ⟨oc_is_mark, od_is_mark, .func (PySem.W.fnOf "is_mark" "is_mark" (defArgs s_is_mark) (defBody s_is_mark) (defScope s_is_mark) .none kV_is_mark dc_is_mark pm_is_mark an_is_mark cd_is_mark ct_is_mark), sl_is_mark⟩) (c_is_mark : PySem.W.codeIn K cd_is_mark "is_mark" = true) (p_is_mark : PySem.W.keepIn K (.ref a_is_mark) = true)
  (g_mark_in : PySem.W.nsIn K mainGlobals "mark_in" = some (some (.ref a_mark_in))) (l_mark_in : K.lookup a_mark_in = some ⟨oc_mark_in, od_mark_in, .func (PySem.W.fnOf "mark_in" "mark_in" (defArgs s_mark_in) (defBody s_mark_in) (defScope s_mark_in) .none kV_mark_in dc_mark_in pm_mark_in an_mark_in cd_mark_in ct_mark_in), sl_mark_in⟩) (c_mark_in : PySem.W.codeIn K cd_mark_in "mark_in" = true) (p_mark_in : PySem.W.keepIn K (.ref a_mark_in) = true)
  (g_label_in : PySem.W.nsIn K mainGlobals "label_in" = some (some (.ref a_label_in))) (l_label_in : K.lookup a_label_in = some ⟨oc_label_in, od_label_in, .func (PySem.W.fnOf "label_in" "label_in" (defArgs s_label_in) (defBody s_label_in) (defScope s_label_in) .none kV_label_in dc_label_in pm_label_in an_label_in cd_label_in ct_label_in), sl_label_in⟩) (c_label_in : PySem.W.codeIn K cd_label_in "label_in" = true) (p_label_in : PySem.W.keepIn K (.ref a_label_in) = true)
  (g_L_deck : PySem.W.nsIn K mainGlobals "_law_deck" = some (some (.ref a_L_deck))) (l_L_deck : K.lookup a_L_deck = some ⟨oc_L_deck, od_L_deck, .func (PySem.W.fnOf "_law_deck" "_law_deck" (defArgs s_L_deck) (defBody s_L_deck) (defScope s_L_deck) .none kV_L_deck dc_L_deck pm_L_deck an_L_deck cd_L_deck ct_L_deck), sl_L_deck⟩) (c_L_deck : PySem.W.codeIn K cd_L_deck "_law_deck" = true) (p_L_deck : PySem.W.keepIn K (.ref a_L_deck) = true)
  (g_L_draw : PySem.W.nsIn K mainGlobals "_law_draw" = some (some (.ref a_L_draw))) (l_L_draw : K.lookup a_L_draw = some ⟨oc_L_draw, od_L_draw, .func (PySem.W.fnOf "_law_draw" "_law_draw" (defArgs s_L_draw) (defBody s_L_draw) (defScope s_L_draw) .none kV_L_draw dc_L_draw pm_L_draw an_L_draw cd_L_draw ct_L_draw), sl_L_draw⟩) (c_L_draw : PySem.W.codeIn K cd_L_draw "_law_draw" = true) (p_L_draw : PySem.W.keepIn K (.ref a_L_draw) = true)
  (g_L_is_word : PySem.W.nsIn K mainGlobals "_law_is_word" = some (some (.ref a_L_is_word))) (l_L_is_word : K.lookup a_L_is_word = some ⟨oc_L_is_word, od_L_is_word, .func (PySem.W.fnOf "_law_is_word" "_law_is_word" (defArgs s_L_is_word) (defBody s_L_is_word) (defScope s_L_is_word) .none kV_L_is_word dc_L_is_word pm_L_is_word an_L_is_word cd_L_is_word ct_L_is_word), sl_L_is_word⟩) (c_L_is_word : PySem.W.codeIn K cd_L_is_word "_law_is_word" = true) (p_L_is_word : PySem.W.keepIn K (.ref a_L_is_word) = true)
  (g_L_is_mark : PySem.W.nsIn K mainGlobals "_law_is_mark" = some (some (.ref a_L_is_mark))) (l_L_is_mark : K.lookup a_L_is_mark = some ⟨oc_L_is_mark, od_L_is_mark, .func (PySem.W.fnOf "_law_is_mark" "_law_is_mark" (defArgs s_L_is_mark) (defBody s_L_is_mark) (defScope s_L_is_mark) .none kV_L_is_mark dc_L_is_mark pm_L_is_mark an_L_is_mark cd_L_is_mark ct_L_is_mark), sl_L_is_mark⟩) (c_L_is_mark : PySem.W.codeIn K cd_L_is_mark "_law_is_mark" = true) (p_L_is_mark : PySem.W.keepIn K (.ref a_L_is_mark) = true)
  (g_L_called : PySem.W.nsIn K mainGlobals "_law_called" = some (some (.ref a_L_called))) (l_L_called : K.lookup a_L_called = some ⟨oc_L_called, od_L_called, .func (PySem.W.fnOf "_law_called" "_law_called" (defArgs s_L_called) (defBody s_L_called) (defScope s_L_called) .none kV_L_called dc_L_called pm_L_called an_L_called cd_L_called ct_L_called), sl_L_called⟩) (c_L_called : PySem.W.codeIn K cd_L_called "_law_called" = true) (p_L_called : PySem.W.keepIn K (.ref a_L_called) = true)
  (g_is_name : PySem.W.nsIn K mainGlobals "is_name" = some (some (.ref a_is_name))) (l_is_name : K.lookup a_is_name = some ⟨oc_is_name, od_is_name, .func (PySem.W.fnOf "is_name" "is_name" (defArgs s_is_name) (defBody s_is_name) (defScope s_is_name) .none kV_is_name dc_is_name pm_is_name an_is_name cd_is_name ct_is_name), sl_is_name⟩) (c_is_name : PySem.W.codeIn K cd_is_name "is_name" = true) (p_is_name : PySem.W.keepIn K (.ref a_is_name) = true)
  (g_L_pick : PySem.W.nsIn K mainGlobals "_law_pick" = some (some (.ref a_L_pick))) (l_L_pick : K.lookup a_L_pick = some ⟨oc_L_pick, od_L_pick, .func (PySem.W.fnOf "_law_pick" "_law_pick" (defArgs s_L_pick) (defBody s_L_pick) (defScope s_L_pick) .none kV_L_pick dc_L_pick pm_L_pick an_L_pick cd_L_pick ct_L_pick), sl_L_pick⟩) (c_L_pick : PySem.W.codeIn K cd_L_pick "_law_pick" = true) (p_L_pick : PySem.W.keepIn K (.ref a_L_pick) = true)
  (g_L_words : PySem.W.nsIn K mainGlobals "_law_words" = some (some (.ref a_L_words))) (l_L_words : K.lookup a_L_words = some ⟨oc_L_words, od_L_words, .func (PySem.W.fnOf "_law_words" "_law_words" (defArgs s_L_words) (defBody s_L_words) (defScope s_L_words) .none kV_L_words dc_L_words pm_L_words an_L_words cd_L_words ct_L_words), sl_L_words⟩) (c_L_words : PySem.W.codeIn K cd_L_words "_law_words" = true) (p_L_words : PySem.W.keepIn K (.ref a_L_words) = true)
  (g_L_is_called : PySem.W.nsIn K mainGlobals "_law_is_called" = some (some (.ref a_L_is_called))) (l_L_is_called : K.lookup a_L_is_called = some ⟨oc_L_is_called, od_L_is_called, .func (PySem.W.fnOf "_law_is_called" "_law_is_called" (defArgs s_L_is_called) (defBody s_L_is_called) (defScope s_L_is_called) .none kV_L_is_called dc_L_is_called pm_L_is_called an_L_is_called cd_L_is_called ct_L_is_called), sl_L_is_called⟩) (c_L_is_called : PySem.W.codeIn K cd_L_is_called "_law_is_called" = true) (p_L_is_called : PySem.W.keepIn K (.ref a_L_is_called) = true)
  (g_L_marks : PySem.W.nsIn K mainGlobals "_law_marks" = some (some (.ref a_L_marks))) (l_L_marks : K.lookup a_L_marks = some ⟨oc_L_marks, od_L_marks, .func (PySem.W.fnOf "_law_marks" "_law_marks" (defArgs s_L_marks) (defBody s_L_marks) (defScope s_L_marks) .none kV_L_marks dc_L_marks pm_L_marks an_L_marks cd_L_marks ct_L_marks), sl_L_marks⟩) (c_L_marks : PySem.W.codeIn K cd_L_marks "_law_marks" = true) (p_L_marks : PySem.W.keepIn K (.ref a_L_marks) = true)
  (g_name_at : PySem.W.nsIn K mainGlobals "name_at" = some (some (.ref a_name_at))) (l_name_at : K.lookup a_name_at = some ⟨oc_name_at, od_name_at, .func (PySem.W.fnOf "name_at" "name_at" (defArgs s_name_at) (defBody s_name_at) (defScope s_name_at) .none kV_name_at dc_name_at pm_name_at an_name_at cd_name_at ct_name_at), sl_name_at⟩) (c_name_at : PySem.W.codeIn K cd_name_at "name_at" = true) (p_name_at : PySem.W.keepIn K (.ref a_name_at) = true)
  (g_L_piece : PySem.W.nsIn K mainGlobals "_law_piece" = some (some (.ref a_L_piece))) (l_L_piece : K.lookup a_L_piece = some ⟨oc_L_piece, od_L_piece, .func (PySem.W.fnOf "_law_piece" "_law_piece" (defArgs s_L_piece) (defBody s_L_piece) (defScope s_L_piece) .none kV_L_piece dc_L_piece pm_L_piece an_L_piece cd_L_piece ct_L_piece), sl_L_piece⟩) (c_L_piece : PySem.W.codeIn K cd_L_piece "_law_piece" = true) (p_L_piece : PySem.W.keepIn K (.ref a_L_piece) = true)
  (g_L_all_within : PySem.W.nsIn K mainGlobals "_law_all_within" = some (some (.ref a_L_all_within))) (l_L_all_within : K.lookup a_L_all_within = some ⟨oc_L_all_within, od_L_all_within, .func (PySem.W.fnOf "_law_all_within" "_law_all_within" (defArgs s_L_all_within) (defBody s_L_all_within) (defScope s_L_all_within) .none kV_L_all_within dc_L_all_within pm_L_all_within an_L_all_within cd_L_all_within ct_L_all_within), sl_L_all_within⟩) (c_L_all_within : PySem.W.codeIn K cd_L_all_within "_law_all_within" = true) (p_L_all_within : PySem.W.keepIn K (.ref a_L_all_within) = true)
  (g_places_in : PySem.W.nsIn K mainGlobals "places_in" = some (some (.ref a_places_in))) (l_places_in : K.lookup a_places_in = some ⟨oc_places_in, od_places_in, .func (PySem.W.fnOf "places_in" "places_in" (defArgs s_places_in) (defBody s_places_in) (defScope s_places_in) .none kV_places_in dc_places_in pm_places_in an_places_in cd_places_in ct_places_in), sl_places_in⟩) (c_places_in : PySem.W.codeIn K cd_places_in "places_in" = true) (p_places_in : PySem.W.keepIn K (.ref a_places_in) = true)
  (g_names_in : PySem.W.nsIn K mainGlobals "names_in" = some (some (.ref a_names_in))) (l_names_in : K.lookup a_names_in = some ⟨oc_names_in, od_names_in, .func (PySem.W.fnOf "names_in" "names_in" (defArgs s_names_in) (defBody s_names_in) (defScope s_names_in) .none kV_names_in dc_names_in pm_names_in an_names_in cd_names_in ct_names_in), sl_names_in⟩) (c_names_in : PySem.W.codeIn K cd_names_in "names_in" = true) (p_names_in : PySem.W.keepIn K (.ref a_names_in) = true)
  (g_law : PySem.W.nsIn K mainGlobals "law" = some (some (.ref a_law))) (l_law : K.lookup a_law = some ⟨oc_law, od_law, .func (PySem.W.fnOf "law" "law" (defArgs s_law) (defBody s_law) (defScope s_law) .none kV_law dc_law pm_law an_law cd_law ct_law), sl_law⟩) (c_law : PySem.W.codeIn K cd_law "law" = true) (p_law : PySem.W.keepIn K (.ref a_law) = true) : Txt K mg := ⟨t_LETTERS, PySem.W.mg_of X G h_LETTERS,
  t_LONGEST_LABEL, PySem.W.mg_of X G h_LONGEST_LABEL,
  t_FIGURES, PySem.W.mg_of X G h_FIGURES,
  t_LONG, PySem.W.mg_of X G h_LONG,
  t_BEGIN, PySem.W.mg_of X G h_BEGIN,
  t_BETWEEN, PySem.W.mg_of X G h_BETWEEN,
  t_END, PySem.W.mg_of X G h_END,
  t_AT, PySem.W.mg_of X G h_AT,
  t_LONGEST, PySem.W.mg_of X G h_LONGEST,
  PySem.W.mg_none_of X G h_all,
  PySem.W.mg_none_of X G h_enumerate,
  PySem.W.mg_none_of X G h_int,
  PySem.W.mg_none_of X G h_isinstance,
  PySem.W.mg_none_of X G h_len,
  PySem.W.mg_none_of X G h_list,
  PySem.W.mg_none_of X G h_range,
  PySem.W.mg_none_of X G h_repr,
  PySem.W.mg_none_of X G h_set,
  PySem.W.mg_none_of X G h_sorted,
  PySem.W.mg_none_of X G h_str,
  PySem.W.mg_none_of X G h_sum,
  PySem.W.mg_none_of X G h_tuple,
  a_is_label, _, fun_mk l_is_label c_is_label p_is_label, PySem.W.mg_of X G g_is_label, (fun_mk (st := s_is_label) l_is_label c_is_label p_is_label).binds (ps := ["thing"]) fun _ _ _ _ _ _ us hl => match us, hl with | [_], _ => rfl,
  a_is_mark, _, fun_mk l_is_mark c_is_mark p_is_mark, PySem.W.mg_of X G g_is_mark, (fun_mk (st := s_is_mark) l_is_mark c_is_mark p_is_mark).binds (ps := ["thing"]) fun _ _ _ _ _ _ us hl => match us, hl with | [_], _ => rfl,
  a_mark_in, _, fun_mk l_mark_in c_mark_in p_mark_in, PySem.W.mg_of X G g_mark_in, (fun_mk (st := s_mark_in) l_mark_in c_mark_in p_mark_in).binds (ps := ["name"]) fun _ _ _ _ _ _ us hl => match us, hl with | [_], _ => rfl,
  a_label_in, _, fun_mk l_label_in c_label_in p_label_in, PySem.W.mg_of X G g_label_in, (fun_mk (st := s_label_in) l_label_in c_label_in p_label_in).binds (ps := ["name"]) fun _ _ _ _ _ _ us hl => match us, hl with | [_], _ => rfl,
  a_L_deck, _, fun_mk l_L_deck c_L_deck p_L_deck, PySem.W.mg_of X G g_L_deck, (fun_mk (st := s_L_deck) l_L_deck c_L_deck p_L_deck).binds (ps := ["_law_script"]) fun _ _ _ _ _ _ us hl => match us, hl with | [_], _ => rfl,
  a_L_draw, _, fun_mk l_L_draw c_L_draw p_L_draw, PySem.W.mg_of X G g_L_draw, (fun_mk (st := s_L_draw) l_L_draw c_L_draw p_L_draw).binds (ps := ["_law_deck_here", "_law_many"]) fun _ _ _ _ _ _ us hl => match us, hl with | [_, _], _ => rfl,
  a_L_is_word, _, fun_mk l_L_is_word c_L_is_word p_L_is_word, PySem.W.mg_of X G g_L_is_word, (fun_mk (st := s_L_is_word) l_L_is_word c_L_is_word p_L_is_word).binds (ps := ["_law_it"]) fun _ _ _ _ _ _ us hl => match us, hl with | [_], _ => rfl,
  a_L_is_mark, _, fun_mk l_L_is_mark c_L_is_mark p_L_is_mark, PySem.W.mg_of X G g_L_is_mark, (fun_mk (st := s_L_is_mark) l_L_is_mark c_L_is_mark p_L_is_mark).binds (ps := ["_law_it"]) fun _ _ _ _ _ _ us hl => match us, hl with | [_], _ => rfl,
  a_L_called, _, fun_mk l_L_called c_L_called p_L_called, PySem.W.mg_of X G g_L_called, (fun_mk (st := s_L_called) l_L_called c_L_called p_L_called).binds (ps := ["_law_mark", "_law_word"]) fun _ _ _ _ _ _ us hl => match us, hl with | [_, _], _ => rfl,
  a_is_name, _, fun_mk l_is_name c_is_name p_is_name, PySem.W.mg_of X G g_is_name, (fun_mk (st := s_is_name) l_is_name c_is_name p_is_name).binds (ps := ["thing"]) fun _ _ _ _ _ _ us hl => match us, hl with | [_], _ => rfl,
  a_L_pick, _, fun_mk l_L_pick c_L_pick p_L_pick, PySem.W.mg_of X G g_L_pick, (fun_mk (st := s_L_pick) l_L_pick c_L_pick p_L_pick).binds (ps := ["_law_deck_here", "_law_some"]) fun _ _ _ _ _ _ us hl => match us, hl with | [_, _], _ => rfl,
  a_L_words, _, fun_mk l_L_words c_L_words p_L_words, PySem.W.mg_of X G g_L_words, (fun_mk (st := s_L_words) l_L_words c_L_words p_L_words).binds (ps := ["_law_deck_here", "_law_many"]) fun _ _ _ _ _ _ us hl => match us, hl with | [_, _], _ => rfl,
  a_L_is_called, _, fun_mk l_L_is_called c_L_is_called p_L_is_called, PySem.W.mg_of X G g_L_is_called, (fun_mk (st := s_L_is_called) l_L_is_called c_L_is_called p_L_is_called).binds (ps := ["_law_it"]) fun _ _ _ _ _ _ us hl => match us, hl with | [_], _ => rfl,
  a_L_marks, _, fun_mk l_L_marks c_L_marks p_L_marks, PySem.W.mg_of X G g_L_marks, (fun_mk (st := s_L_marks) l_L_marks c_L_marks p_L_marks).binds (ps := ["_law_deck_here"]) fun _ _ _ _ _ _ us hl => match us, hl with | [_], _ => rfl,
  a_name_at, _, fun_mk l_name_at c_name_at p_name_at, PySem.W.mg_of X G g_name_at, (fun_mk (st := s_name_at) l_name_at c_name_at p_name_at).binds (ps := ["text", "at"]) fun _ _ _ _ _ _ us hl => match us, hl with | [_, _], _ => rfl,
  a_L_piece, _, fun_mk l_L_piece c_L_piece p_L_piece, PySem.W.mg_of X G g_L_piece, (fun_mk (st := s_L_piece) l_L_piece c_L_piece p_L_piece).binds (ps := ["_law_deck_here", "_law_pool"]) fun _ _ _ _ _ _ us hl => match us, hl with | [_, _], _ => rfl,
  a_L_all_within, _, fun_mk l_L_all_within c_L_all_within p_L_all_within, PySem.W.mg_of X G g_L_all_within, (fun_mk (st := s_L_all_within) l_L_all_within c_L_all_within p_L_all_within).binds (ps := ["_law_written"]) fun _ _ _ _ _ _ us hl => match us, hl with | [_], _ => rfl,
  a_places_in, _, fun_mk l_places_in c_places_in p_places_in, PySem.W.mg_of X G g_places_in, (fun_mk (st := s_places_in) l_places_in c_places_in p_places_in).binds (ps := ["text"]) fun _ _ _ _ _ _ us hl => match us, hl with | [_], _ => rfl,
  a_names_in, _, fun_mk l_names_in c_names_in p_names_in, PySem.W.mg_of X G g_names_in, (fun_mk (st := s_names_in) l_names_in c_names_in p_names_in).binds (ps := ["text"]) fun _ _ _ _ _ _ us hl => match us, hl with | [_], _ => rfl,
  a_law, _, fun_mk l_law c_law p_law, PySem.W.mg_of X G g_law, (fun_mk (st := s_law) l_law c_law p_law).binds (ps := ["_law_script"]) fun _ _ _ _ _ _ us hl => match us, hl with | [_], _ => rfl,
  fun s ws r _ hl e => by
    match ws, hl with
    | [_], _ => cases e; exact fun_bindsG (fun_mk (st := s_names_in) l_names_in c_names_in p_names_in) s fun _ _ _ _ _ _ => rfl⟩
theorem all_mk {l : PySem.W.OpenLaw} {w : World} {K : PySem.W.Frag} {h : Heap} {mg : Str → Option Value} {fa : Addr} (X : K.In h) (G : h.Ns mainGlobals mg) (hfa : mg "law" = some (.ref fa)) {t_LETTERS : Tok}
  {t_LONGEST_LABEL : Tok}
  {t_FIGURES : Tok}
  {t_LONG : Tok}
  {t_BEGIN : Tok}
  {t_BETWEEN : Tok}
  {t_END : Tok}
  {t_AT : Tok}
  {t_LONGEST : Tok}
  {a_is_label : Addr} {od_is_label an_is_label : Option Addr} {sl_is_label : Array (Option Value)} {oc_is_label kV_is_label dc_is_label pm_is_label cd_is_label ct_is_label : Value}
  {a_is_mark : Addr} {od_is_mark an_is_mark : Option Addr} {sl_is_mark : Array (Option Value)} {oc_is_mark kV_is_mark dc_is_mark pm_is_mark cd_is_mark ct_is_mark : Value}
  {a_mark_in : Addr} {od_mark_in an_mark_in : Option Addr} {sl_mark_in : Array (Option Value)} {oc_mark_in kV_mark_in dc_mark_in pm_mark_in cd_mark_in ct_mark_in : Value}
  {a_label_in : Addr} {od_label_in an_label_in : Option Addr} {sl_label_in : Array (Option Value)} {oc_label_in kV_label_in dc_label_in pm_label_in cd_label_in ct_label_in : Value}
  {a_L_deck : Addr} {od_L_deck an_L_deck : Option Addr} {sl_L_deck : Array (Option Value)} {oc_L_deck kV_L_deck dc_L_deck pm_L_deck cd_L_deck ct_L_deck : Value}
  {a_L_draw : Addr} {od_L_draw an_L_draw : Option Addr} {sl_L_draw : Array (Option Value)} {oc_L_draw kV_L_draw dc_L_draw pm_L_draw cd_L_draw ct_L_draw : Value}
  {a_L_is_word : Addr} {od_L_is_word an_L_is_word : Option Addr} {sl_L_is_word : Array (Option Value)} {oc_L_is_word kV_L_is_word dc_L_is_word pm_L_is_word cd_L_is_word ct_L_is_word : Value}
  {a_L_is_mark : Addr} {od_L_is_mark an_L_is_mark : Option Addr} {sl_L_is_mark : Array (Option Value)} {oc_L_is_mark kV_L_is_mark dc_L_is_mark pm_L_is_mark cd_L_is_mark ct_L_is_mark : Value}
  {a_L_called : Addr} {od_L_called an_L_called : Option Addr} {sl_L_called : Array (Option Value)} {oc_L_called kV_L_called dc_L_called pm_L_called cd_L_called ct_L_called : Value}
  {a_is_name : Addr} {od_is_name an_is_name : Option Addr} {sl_is_name : Array (Option Value)} {oc_is_name kV_is_name dc_is_name pm_is_name cd_is_name ct_is_name : Value}
  {a_L_pick : Addr} {od_L_pick an_L_pick : Option Addr} {sl_L_pick : Array (Option Value)} {oc_L_pick kV_L_pick dc_L_pick pm_L_pick cd_L_pick ct_L_pick : Value}
  {a_L_words : Addr} {od_L_words an_L_words : Option Addr} {sl_L_words : Array (Option Value)} {oc_L_words kV_L_words dc_L_words pm_L_words cd_L_words ct_L_words : Value}
  {a_L_is_called : Addr} {od_L_is_called an_L_is_called : Option Addr} {sl_L_is_called : Array (Option Value)} {oc_L_is_called kV_L_is_called dc_L_is_called pm_L_is_called cd_L_is_called ct_L_is_called : Value}
  {a_L_marks : Addr} {od_L_marks an_L_marks : Option Addr} {sl_L_marks : Array (Option Value)} {oc_L_marks kV_L_marks dc_L_marks pm_L_marks cd_L_marks ct_L_marks : Value}
  {a_name_at : Addr} {od_name_at an_name_at : Option Addr} {sl_name_at : Array (Option Value)} {oc_name_at kV_name_at dc_name_at pm_name_at cd_name_at ct_name_at : Value}
  {a_L_piece : Addr} {od_L_piece an_L_piece : Option Addr} {sl_L_piece : Array (Option Value)} {oc_L_piece kV_L_piece dc_L_piece pm_L_piece cd_L_piece ct_L_piece : Value}
  {a_L_all_within : Addr} {od_L_all_within an_L_all_within : Option Addr} {sl_L_all_within : Array (Option Value)} {oc_L_all_within kV_L_all_within dc_L_all_within pm_L_all_within cd_L_all_within ct_L_all_within : Value}
  {a_places_in : Addr} {od_places_in an_places_in : Option Addr} {sl_places_in : Array (Option Value)} {oc_places_in kV_places_in dc_places_in pm_places_in cd_places_in ct_places_in : Value}
  {a_names_in : Addr} {od_names_in an_names_in : Option Addr} {sl_names_in : Array (Option Value)} {oc_names_in kV_names_in dc_names_in pm_names_in cd_names_in ct_names_in : Value}
  {a_law : Addr} {od_law an_law : Option Addr} {sl_law : Array (Option Value)} {oc_law kV_law dc_law pm_law cd_law ct_law : Value}
  (h_LETTERS : PySem.W.nsIn K mainGlobals "LETTERS" = some (some (.str k_LETTERS t_LETTERS)))
  (h_LONGEST_LABEL : PySem.W.nsIn K mainGlobals "LONGEST_LABEL" = some (some (.int 8 t_LONGEST_LABEL)))
  (h_FIGURES : PySem.W.nsIn K mainGlobals "FIGURES" = some (some (.str k_FIGURES t_FIGURES)))
  (h_LONG : PySem.W.nsIn K mainGlobals "LONG" = some (some (.int 8 t_LONG)))
  (h_BEGIN : PySem.W.nsIn K mainGlobals "BEGIN" = some (some (.str k_BEGIN t_BEGIN)))
  (h_BETWEEN : PySem.W.nsIn K mainGlobals "BETWEEN" = some (some (.str k_BETWEEN t_BETWEEN)))
  (h_END : PySem.W.nsIn K mainGlobals "END" = some (some (.str k_END t_END)))
  (h_AT : PySem.W.nsIn K mainGlobals "AT" = some (some (.int 9 t_AT)))
  (h_LONGEST : PySem.W.nsIn K mainGlobals "LONGEST" = some (some (.int 19 t_LONGEST)))
  (h_all : PySem.W.nsIn K mainGlobals "all" = some none)
  (h_enumerate : PySem.W.nsIn K mainGlobals "enumerate" = some none)
  (h_int : PySem.W.nsIn K mainGlobals "int" = some none)
  (h_isinstance : PySem.W.nsIn K mainGlobals "isinstance" = some none)
  (h_len : PySem.W.nsIn K mainGlobals "len" = some none)
  (h_list : PySem.W.nsIn K mainGlobals "list" = some none)
  (h_range : PySem.W.nsIn K mainGlobals "range" = some none)
  (h_repr : PySem.W.nsIn K mainGlobals "repr" = some none)
  (h_set : PySem.W.nsIn K mainGlobals "set" = some none)
  (h_sorted : PySem.W.nsIn K mainGlobals "sorted" = some none)
  (h_str : PySem.W.nsIn K mainGlobals "str" = some none)
  (h_sum : PySem.W.nsIn K mainGlobals "sum" = some none)
  (h_tuple : PySem.W.nsIn K mainGlobals "tuple" = some none)
  (g_is_label : PySem.W.nsIn K mainGlobals "is_label" = some (some (.ref a_is_label))) (l_is_label : K.lookup a_is_label = some ⟨oc_is_label, od_is_label, .func (PySem.W.fnOf "is_label" "is_label" (defArgs s_is_label) (defBody s_is_label) (defScope s_is_label) .none kV_is_label dc_is_label pm_is_label an_is_label cd_is_label ct_is_label), sl_is_label⟩) (c_is_label : PySem.W.codeIn K cd_is_label "is_label" = true) (p_is_label : PySem.W.keepIn K (.ref a_is_label) = true)
  (g_is_mark : PySem.W.nsIn K mainGlobals "is_mark" = some (some (.ref a_is_mark))) (l_is_mark : K.lookup a_is_mark = some ⟨oc_is_mark, od_is_mark, .func (PySem.W.fnOf "is_mark" "is_mark" (defArgs s_is_mark) (defBody s_is_mark) (defScope s_is_mark) .none kV_is_mark dc_is_mark pm_is_mark an_is_mark cd_is_mark ct_is_mark), sl_is_mark⟩) (c_is_mark : PySem.W.codeIn K cd_is_mark "is_mark" = true) (p_is_mark : PySem.W.keepIn K (.ref a_is_mark) = true)
  (g_mark_in : PySem.W.nsIn K mainGlobals "mark_in" = some (some (.ref a_mark_in))) (l_mark_in : K.lookup a_mark_in = some ⟨oc_mark_in, od_mark_in, .func (PySem.W.fnOf "mark_in" "mark_in" (defArgs s_mark_in) (defBody s_mark_in) (defScope s_mark_in) .none kV_mark_in dc_mark_in pm_mark_in an_mark_in cd_mark_in ct_mark_in), sl_mark_in⟩) (c_mark_in : PySem.W.codeIn K cd_mark_in "mark_in" = true) (p_mark_in : PySem.W.keepIn K (.ref a_mark_in) = true)
  (g_label_in : PySem.W.nsIn K mainGlobals "label_in" = some (some (.ref a_label_in))) (l_label_in : K.lookup a_label_in = some ⟨oc_label_in, od_label_in, .func (PySem.W.fnOf "label_in" "label_in" (defArgs s_label_in) (defBody s_label_in) (defScope s_label_in) .none kV_label_in dc_label_in pm_label_in an_label_in cd_label_in ct_label_in), sl_label_in⟩) (c_label_in : PySem.W.codeIn K cd_label_in "label_in" = true) (p_label_in : PySem.W.keepIn K (.ref a_label_in) = true)
  (g_L_deck : PySem.W.nsIn K mainGlobals "_law_deck" = some (some (.ref a_L_deck))) (l_L_deck : K.lookup a_L_deck = some ⟨oc_L_deck, od_L_deck, .func (PySem.W.fnOf "_law_deck" "_law_deck" (defArgs s_L_deck) (defBody s_L_deck) (defScope s_L_deck) .none kV_L_deck dc_L_deck pm_L_deck an_L_deck cd_L_deck ct_L_deck), sl_L_deck⟩) (c_L_deck : PySem.W.codeIn K cd_L_deck "_law_deck" = true) (p_L_deck : PySem.W.keepIn K (.ref a_L_deck) = true)
  (g_L_draw : PySem.W.nsIn K mainGlobals "_law_draw" = some (some (.ref a_L_draw))) (l_L_draw : K.lookup a_L_draw = some ⟨oc_L_draw, od_L_draw, .func (PySem.W.fnOf "_law_draw" "_law_draw" (defArgs s_L_draw) (defBody s_L_draw) (defScope s_L_draw) .none kV_L_draw dc_L_draw pm_L_draw an_L_draw cd_L_draw ct_L_draw), sl_L_draw⟩) (c_L_draw : PySem.W.codeIn K cd_L_draw "_law_draw" = true) (p_L_draw : PySem.W.keepIn K (.ref a_L_draw) = true)
  (g_L_is_word : PySem.W.nsIn K mainGlobals "_law_is_word" = some (some (.ref a_L_is_word))) (l_L_is_word : K.lookup a_L_is_word = some ⟨oc_L_is_word, od_L_is_word, .func (PySem.W.fnOf "_law_is_word" "_law_is_word" (defArgs s_L_is_word) (defBody s_L_is_word) (defScope s_L_is_word) .none kV_L_is_word dc_L_is_word pm_L_is_word an_L_is_word cd_L_is_word ct_L_is_word), sl_L_is_word⟩) (c_L_is_word : PySem.W.codeIn K cd_L_is_word "_law_is_word" = true) (p_L_is_word : PySem.W.keepIn K (.ref a_L_is_word) = true)
  (g_L_is_mark : PySem.W.nsIn K mainGlobals "_law_is_mark" = some (some (.ref a_L_is_mark))) (l_L_is_mark : K.lookup a_L_is_mark = some ⟨oc_L_is_mark, od_L_is_mark, .func (PySem.W.fnOf "_law_is_mark" "_law_is_mark" (defArgs s_L_is_mark) (defBody s_L_is_mark) (defScope s_L_is_mark) .none kV_L_is_mark dc_L_is_mark pm_L_is_mark an_L_is_mark cd_L_is_mark ct_L_is_mark), sl_L_is_mark⟩) (c_L_is_mark : PySem.W.codeIn K cd_L_is_mark "_law_is_mark" = true) (p_L_is_mark : PySem.W.keepIn K (.ref a_L_is_mark) = true)
  (g_L_called : PySem.W.nsIn K mainGlobals "_law_called" = some (some (.ref a_L_called))) (l_L_called : K.lookup a_L_called = some ⟨oc_L_called, od_L_called, .func (PySem.W.fnOf "_law_called" "_law_called" (defArgs s_L_called) (defBody s_L_called) (defScope s_L_called) .none kV_L_called dc_L_called pm_L_called an_L_called cd_L_called ct_L_called), sl_L_called⟩) (c_L_called : PySem.W.codeIn K cd_L_called "_law_called" = true) (p_L_called : PySem.W.keepIn K (.ref a_L_called) = true)
  (g_is_name : PySem.W.nsIn K mainGlobals "is_name" = some (some (.ref a_is_name))) (l_is_name : K.lookup a_is_name = some ⟨oc_is_name, od_is_name, .func (PySem.W.fnOf "is_name" "is_name" (defArgs s_is_name) (defBody s_is_name) (defScope s_is_name) .none kV_is_name dc_is_name pm_is_name an_is_name cd_is_name ct_is_name), sl_is_name⟩) (c_is_name : PySem.W.codeIn K cd_is_name "is_name" = true) (p_is_name : PySem.W.keepIn K (.ref a_is_name) = true)
  (g_L_pick : PySem.W.nsIn K mainGlobals "_law_pick" = some (some (.ref a_L_pick))) (l_L_pick : K.lookup a_L_pick = some ⟨oc_L_pick, od_L_pick, .func (PySem.W.fnOf "_law_pick" "_law_pick" (defArgs s_L_pick) (defBody s_L_pick) (defScope s_L_pick) .none kV_L_pick dc_L_pick pm_L_pick an_L_pick cd_L_pick ct_L_pick), sl_L_pick⟩) (c_L_pick : PySem.W.codeIn K cd_L_pick "_law_pick" = true) (p_L_pick : PySem.W.keepIn K (.ref a_L_pick) = true)
  (g_L_words : PySem.W.nsIn K mainGlobals "_law_words" = some (some (.ref a_L_words))) (l_L_words : K.lookup a_L_words = some ⟨oc_L_words, od_L_words, .func (PySem.W.fnOf "_law_words" "_law_words" (defArgs s_L_words) (defBody s_L_words) (defScope s_L_words) .none kV_L_words dc_L_words pm_L_words an_L_words cd_L_words ct_L_words), sl_L_words⟩) (c_L_words : PySem.W.codeIn K cd_L_words "_law_words" = true) (p_L_words : PySem.W.keepIn K (.ref a_L_words) = true)
  (g_L_is_called : PySem.W.nsIn K mainGlobals "_law_is_called" = some (some (.ref a_L_is_called))) (l_L_is_called : K.lookup a_L_is_called = some ⟨oc_L_is_called, od_L_is_called, .func (PySem.W.fnOf "_law_is_called" "_law_is_called" (defArgs s_L_is_called) (defBody s_L_is_called) (defScope s_L_is_called) .none kV_L_is_called dc_L_is_called pm_L_is_called an_L_is_called cd_L_is_called ct_L_is_called), sl_L_is_called⟩) (c_L_is_called : PySem.W.codeIn K cd_L_is_called "_law_is_called" = true) (p_L_is_called : PySem.W.keepIn K (.ref a_L_is_called) = true)
  (g_L_marks : PySem.W.nsIn K mainGlobals "_law_marks" = some (some (.ref a_L_marks))) (l_L_marks : K.lookup a_L_marks = some ⟨oc_L_marks, od_L_marks, .func (PySem.W.fnOf "_law_marks" "_law_marks" (defArgs s_L_marks) (defBody s_L_marks) (defScope s_L_marks) .none kV_L_marks dc_L_marks pm_L_marks an_L_marks cd_L_marks ct_L_marks), sl_L_marks⟩) (c_L_marks : PySem.W.codeIn K cd_L_marks "_law_marks" = true) (p_L_marks : PySem.W.keepIn K (.ref a_L_marks) = true)
  (g_name_at : PySem.W.nsIn K mainGlobals "name_at" = some (some (.ref a_name_at))) (l_name_at : K.lookup a_name_at = some ⟨oc_name_at, od_name_at, .func (PySem.W.fnOf "name_at" "name_at" (defArgs s_name_at) (defBody s_name_at) (defScope s_name_at) .none kV_name_at dc_name_at pm_name_at an_name_at cd_name_at ct_name_at), sl_name_at⟩) (c_name_at : PySem.W.codeIn K cd_name_at "name_at" = true) (p_name_at : PySem.W.keepIn K (.ref a_name_at) = true)
  (g_L_piece : PySem.W.nsIn K mainGlobals "_law_piece" = some (some (.ref a_L_piece))) (l_L_piece : K.lookup a_L_piece = some ⟨oc_L_piece, od_L_piece, .func (PySem.W.fnOf "_law_piece" "_law_piece" (defArgs s_L_piece) (defBody s_L_piece) (defScope s_L_piece) .none kV_L_piece dc_L_piece pm_L_piece an_L_piece cd_L_piece ct_L_piece), sl_L_piece⟩) (c_L_piece : PySem.W.codeIn K cd_L_piece "_law_piece" = true) (p_L_piece : PySem.W.keepIn K (.ref a_L_piece) = true)
  (g_L_all_within : PySem.W.nsIn K mainGlobals "_law_all_within" = some (some (.ref a_L_all_within))) (l_L_all_within : K.lookup a_L_all_within = some ⟨oc_L_all_within, od_L_all_within, .func (PySem.W.fnOf "_law_all_within" "_law_all_within" (defArgs s_L_all_within) (defBody s_L_all_within) (defScope s_L_all_within) .none kV_L_all_within dc_L_all_within pm_L_all_within an_L_all_within cd_L_all_within ct_L_all_within), sl_L_all_within⟩) (c_L_all_within : PySem.W.codeIn K cd_L_all_within "_law_all_within" = true) (p_L_all_within : PySem.W.keepIn K (.ref a_L_all_within) = true)
  (g_places_in : PySem.W.nsIn K mainGlobals "places_in" = some (some (.ref a_places_in))) (l_places_in : K.lookup a_places_in = some ⟨oc_places_in, od_places_in, .func (PySem.W.fnOf "places_in" "places_in" (defArgs s_places_in) (defBody s_places_in) (defScope s_places_in) .none kV_places_in dc_places_in pm_places_in an_places_in cd_places_in ct_places_in), sl_places_in⟩) (c_places_in : PySem.W.codeIn K cd_places_in "places_in" = true) (p_places_in : PySem.W.keepIn K (.ref a_places_in) = true)
  (g_names_in : PySem.W.nsIn K mainGlobals "names_in" = some (some (.ref a_names_in))) (l_names_in : K.lookup a_names_in = some ⟨oc_names_in, od_names_in, .func (PySem.W.fnOf "names_in" "names_in" (defArgs s_names_in) (defBody s_names_in) (defScope s_names_in) .none kV_names_in dc_names_in pm_names_in an_names_in cd_names_in ct_names_in), sl_names_in⟩) (c_names_in : PySem.W.codeIn K cd_names_in "names_in" = true) (p_names_in : PySem.W.keepIn K (.ref a_names_in) = true)
  (g_law : PySem.W.nsIn K mainGlobals "law" = some (some (.ref a_law))) (l_law : K.lookup a_law = some ⟨oc_law, od_law, .func (PySem.W.fnOf "law" "law" (defArgs s_law) (defBody s_law) (defScope s_law) .none kV_law dc_law pm_law an_law cd_law ct_law), sl_law⟩) (c_law : PySem.W.codeIn K cd_law "law" = true) (p_law : PySem.W.keepIn K (.ref a_law) = true) :
  ∃ (fd : FuncData) (m : List Mv → Sg → Res Mv), (∀ (s : Shared) (v : Value), BindsTo s fd ⟨[v], []⟩ [("_law_script", v)]) ∧ (∀ base : Heap, K.In base → base.Ns mainGlobals mg → FnM l.prog w K mg base 6 fa fd ["_law_script"] m) ∧ m = f_law := by
  have e := hfa.symm.trans (PySem.W.mg_of X G g_law)
  cases e
  exact ⟨_, f_law, fun s v => fun_bindsG (ps := ["_law_script"]) (args := ⟨[v], []⟩) (r := [v]) (fun_mk (st := s_law) l_law c_law p_law) s fun _ _ _ _ _ _ => rfl, fun base _ _ => ok_law (txt X G h_LETTERS h_LONGEST_LABEL h_FIGURES h_LONG h_BEGIN h_BETWEEN h_END h_AT h_LONGEST h_all h_enumerate h_int h_isinstance h_len h_list h_range h_repr h_set h_sorted h_str h_sum h_tuple g_is_label l_is_label c_is_label p_is_label g_is_mark l_is_mark c_is_mark p_is_mark g_mark_in l_mark_in c_mark_in p_mark_in g_label_in l_label_in c_label_in p_label_in g_L_deck l_L_deck c_L_deck p_L_deck g_L_draw l_L_draw c_L_draw p_L_draw g_L_is_word l_L_is_word c_L_is_word p_L_is_word g_L_is_mark l_L_is_mark c_L_is_mark p_L_is_mark g_L_called l_L_called c_L_called p_L_called g_is_name l_is_name c_is_name p_is_name g_L_pick l_L_pick c_L_pick p_L_pick g_L_words l_L_words c_L_words p_L_words g_L_is_called l_L_is_called c_L_is_called p_L_is_called g_L_marks l_L_marks c_L_marks p_L_marks g_name_at l_name_at c_name_at p_name_at g_L_piece l_L_piece c_L_piece p_L_piece g_L_all_within l_L_all_within c_L_all_within p_L_all_within g_places_in l_places_in c_places_in p_places_in g_names_in l_names_in c_names_in p_names_in g_law l_law c_law p_law), rfl⟩
end
end Law
end
section
set_option Elab.async false
set_option linter.all false
set_option maxRecDepth 100000
set_option maxHeartbeats 4000000
set_option autoImplicit false
namespace Law
open PySem PySem.Spec PyProof.Rows L2 MM
local macro_rules | `(tactic| walk_at "mm") => `(tactic| simp (disch := first | assumption | omega | exact MM.Q.shaped_int | exact MM.Q.shaped_nil | exact MM.Q.shaped_ints | exact MM.Q.shaped_bool | (refine of_eq_true (eq_true ?_); first | with_unfolding_all rfl | (simp only [MM.Q.free_d, MM.Q.free_ref, MM.Q.free_adr, MM.Q.frees_nil, MM.Q.frees_cons, MM.Q.frees_map, Bool.and_true, Bool.true_and]; done)) | (simp only [List.length_cons, List.length_nil, List.append_nil, List.map_cons, List.map_nil, List.length_append, List.length_map, List.length_reverse, MM.Q.dI_len, PySem.sizeLine_eq]; omega)) only [MM.Q.bind_ok, MM.Q.bind_exc, MM.Q.go_ok, MM.Q.go_exc, MM.Q.nox_ok, MM.Q.vr_some, MM.Q.ev_var, MM.Q.ev_c, MM.Q.ev_k, MM.Q.frzO_some, MM.Q.tupO_some, MM.Q.tupO_none, MM.Q.bear_val, MM.Q.bear_frz, MM.Q.bear_ref, MM.Q.bear_own, MM.Q.bear_tup, MM.Q.allD_nil, MM.Q.allD_cons, MM.Q.allD_map, MM.Q.bearO_some, MM.Q.ev_bin, MM.Q.ev_bin1, MM.Q.ev_bin2, MM.Q.add_int, MM.Q.sub_int, MM.Q.mul_int, MM.Q.mod_int, MM.Q.fdiv_int, MM.Q.pow_int, MM.Q.intB_int, MM.Q.datO_f, MM.Q.datO_t, MM.Q.data_d, MM.Q.data_ref, MM.Q.data_own, MM.Q.ev_eq_r, MM.Q.ev_eq_o, MM.Q.ev_eq_l, MM.Q.ev_eq_t, MM.Q.ev_eq_i, MM.Q.ev_eq_b, MM.Q.ev_eq_n, MM.Q.ev_eq_st, MM.Q.ev_eq_sf, MM.Q.eqO_some, MM.Q.eqC_t, MM.Q.eqC_f, MM.Q.eqv_nil, MM.Q.eqv_int, MM.Q.eqv_bool, MM.Q.in_str, MM.Q.notIn_str, MM.Q.is_bool, MM.Q.isnot_bool, MM.Q.tst_bool, MM.Q.ev_tst, MM.Q.ev_truth, MM.Q.ev_tru, MM.Q.truO_some, MM.Q.truth_bool, MM.Q.truth_int, MM.Q.truth_none, MM.Q.truth_list, MM.Q.truth_tup, MM.Q.ev_andB, MM.Q.ev_orB, MM.Q.ev_notB, MM.Q.andB_t, MM.Q.andB_f, MM.Q.orB_t, MM.Q.orB_f, MM.Q.ev_notB1, MM.Q.ev_and, MM.Q.ev_or, MM.Q.and_tB, MM.Q.and_fB, MM.Q.or_tB, MM.Q.or_fB, MM.Q.ev_not, MM.Q.ev_not1, MM.Q.notO_some, MM.Q.ev_ifE, MM.Q.ifE_t, MM.Q.ifE_f, MM.Q.ev_nil, MM.Q.ev_cons, MM.Q.ev_cons1, MM.Q.ev_cons2, MM.Q.ev_disp, MM.Q.disp_lst, MM.Q.disp_tup, MM.Q.frees_nil, MM.Q.frees_cons, MM.Q.free_d, MM.Q.free_ref, MM.Q.free_adr, MM.Q.dI_snoc, MM.Q.dI_len, MM.Q.allD_dI, MM.Q.dI_nil, MM.Q.allD_dIs, MM.Q.frees_map, MM.Q.ev_cb, MM.Q.ev_cb1, MM.Q.ev_call, MM.Q.ev_call1, MM.Q.ev_call0, MM.Q.ev_callK, MM.Q.ev_callK1, MM.Q.ev_callK2, MM.Q.ldd_some, MM.Q.laid_nil, MM.Q.laid_k, MM.Q.laid_p, MM.Q.ixO_some, MM.Q.ev_ix, MM.Q.ev_ix1, MM.Q.ev_ix2, MM.Q.ix_list, MM.Q.ix_tup, MM.Q.refS_lst, MM.Q.refS_tup, MM.Q.seq_ref, MM.Q.seq_own, MM.Q.seq_list, MM.Q.seq_tup, MM.Q.ixK_some, MM.Q.ix_ref, MM.Q.ix_own, MM.Q.listO_f, MM.Q.ev_list, MM.Q.at0, MM.Q.at1, MM.Q.at2, MM.Q.at3, MM.Q.at4, MM.Q.ixN0, MM.Q.ixN1, MM.Q.ixN2, MM.Q.ev_oN, MM.Q.ev_oS, MM.Q.oS_int, MM.Q.ev_sl, MM.Q.ev_sl1, MM.Q.ev_sl2, MM.Q.ev_sl3, MM.Q.ev_rev, MM.Q.rev_list, MM.Q.ev_bm, MM.Q.ev_bm1, MM.Q.cBM_t, MM.Q.ev_bm2, MM.Q.buO_some, MM.Q.ev_bu, MM.Q.ev_bu1, MM.Q.cBU_t, MM.Q.ev_bu2, MM.Q.ty_str, MM.Q.tyO_some, MM.Q.ty_ref, MM.Q.ty_own, MM.Q.ty_list, MM.Q.beq_ll, MM.Q.beq_ss, MM.Q.celO_some, MM.Q.cell_ref, MM.Q.cell_own, MM.Q.ev_append, MM.Q.appO_some, MM.Q.ev_extend, MM.Q.extO_some, MM.Q.ev_pop, MM.Q.popO_snoc, MM.Q.ev_ind, MM.Q.ev_ind1, MM.Q.ev_neg, MM.Q.neg_int, MM.Q.ev_iter, MM.Q.ev_it, MM.Q.itO_some, MM.Q.items_list, MM.Q.items_tup, MM.Q.ev_rg1, MM.Q.rg1_int, MM.Q.ev_lc, MM.Q.ev_lc1, MM.Q.ev_lc2, MM.Q.wipe_nil, MM.Q.wipe_cons, MM.Q.ev_seq, MM.Q.seq_nx, MM.Q.seq_rt, MM.Q.seq_exc, MM.Q.seq_bk, MM.Q.seq_ct, MM.Q.ev_asg, MM.Q.ev_asg1, MM.Q.nxO_some, MM.Q.mg_name, MM.Q.mg_nil, MM.Q.mg_consN, MM.Q.mg_tup, MM.Q.ev_expr, MM.Q.ev_expr1, MM.Q.ev_ret, MM.Q.ev_ret1, MM.Q.ev_retN, MM.Q.ev_skip, MM.Q.ev_brk, MM.Q.ev_cnt, MM.Q.ev_if, MM.Q.if_t, MM.Q.if_f, MM.Q.ev_for, MM.Q.ev_for1, MM.Q.ev_fz, MM.Q.fz_own, MM.Q.fzC_some, MM.Q.fzO_some, MM.Q.fz_d, MM.Q.fz_ref, MM.Q.stO_some, MM.Q.ev_st, MM.Q.ev_st1, MM.Q.ev_st2, MM.Q.ev_st3, MM.Q.ev_setIx, MM.Q.siO_some, MM.Q.ev_par, MM.Q.ev_par1, MM.Q.nones_zero, MM.Q.nones_succ, MM.Q.begin_eq,  MM.Q.ev_fn, MM.Q.fin_rt, MM.Q.fin_ref, MM.Q.fin_nx, MM.Q.trim_same, MM.Q.trim_app, MM.Q.ev_len, MM.Q.ev_lst_l, MM.Q.ev_lst_t, MM.Q.ev_lst_r, MM.Q.ev_lst_o, MM.Q.ev_l1, MM.Q.ev_sum, MM.Q.ev_all, MM.Q.ev_any, MM.Q.ev_isi, MM.Q.kind_str, MM.Q.kind_int, MM.Q.kind_bool, MM.Q.kind_none, MM.Q.kind_dict, MM.Q.kind_list, MM.Q.kind_tup, MM.Q.kit_ss, MM.Q.kit_is, MM.Q.kit_bs, MM.Q.kit_ns, MM.Q.kit_ds, MM.Q.kit_ls, MM.Q.kit_ts, MM.Q.ev_repr, MM.Q.ev_join, MM.Q.lenO_some, MM.Q.len_list, MM.Q.len_tup, MM.Q.lnO_some, MM.Q.len_ref, MM.Q.len_own, MM.Q.lisO_some, MM.Q.l1O_some, MM.Q.ints_map, MM.Q.bools_map, MM.Q.strs_map, MM.Q.isiO_some, MM.Q.jnO_some, MM.Q.len_st, MM.Q.add_st, MM.Q.mul_st, MM.Q.ix_st, MM.Q.sl_st, MM.Q.rev_st, MM.Q.eqv_st, MM.Q.st_dec, MM.Q.divmod_int, MM.Q.items_st, MM.Q.allD_mapf, MM.Q.strs_mapf, MM.Q.ints_mapf, MM.Q.bools_mapf, MM.Q.join_ones_some, MM.Q.sl_own, MM.Q.sl_ref, MM.Q.sl_list, MM.Q.slO_some, MM.Q.add_own, MM.Q.add_ref, MM.Q.add_list, MM.Q.catO_some, MM.Q.cutL_map, MM.Q.mg_tupL, MM.Q.ev_ch, MM.Q.ev_ch1, MM.Q.ev_ch2, MM.Q.ch_t, MM.Q.ch_f, MM.Q.ev_ch3, MM.Q.starts_str, MM.Q.ends_str, MM.Q.upper_str, MM.Q.part_str, MM.Q.ev_fmt, MM.Q.ev_fmtR, MM.Q.fmt_st, MM.Q.fmt_int, MM.Q.ev_js_nil, MM.Q.ev_js_cons, MM.Q.ev_js1, MM.Q.ev_js2, MM.Q.jsF_some, MM.Q.js_st, MM.Q.ev_pr_nil, MM.Q.ev_pr_cons, MM.Q.ev_pr1, MM.Q.ev_pr2, MM.Q.ev_pr3, MM.Q.ev_dct, MM.Q.ev_dct1, MM.Q.keys_one, MM.Q.dctF_one, MM.Q.tup_list, MM.Q.tup_tup, MM.Q.tup_st, MM.Q.lst_st, MM.Q.mul_list, MM.Q.mul_tup, MM.Q.ev_popK, MM.Q.in_own, MM.Q.in_ref, MM.Q.in_list, MM.Q.inO_t, MM.Q.inO_f, MM.Q.b2i_t, MM.Q.b2i_f, MM.Q.int_int, MM.Q.int_bool, MM.Q.ev_rg2, MM.Q.rg2_int, MM.Q.ev_en, MM.Q.en_list, MM.Q.en_tup, MM.Q.en_st, MM.Q.ev_sortSc, MM.Q.ev_lenSc, MM.Q.ev_sc1, MM.Q.ev_scL1, MM.Q.ev_sc2, MM.Q.ev_scL2, 
  List.map_cons, List.map_nil, List.length_cons, List.length_nil, List.append_nil, List.nil_append, List.cons_append, List.getElem?_cons_zero, List.getElem?_cons_succ, List.set_cons_zero, List.set_cons_succ, Bool.and_true, Bool.true_and, Option.bind_some, Option.map_some, Nat.reduceAdd, Nat.reduceSub, Nat.add_sub_cancel, Nat.sub_self])
--- imports 
/-! the deck -/
def deckS (xs : List Int) (b c : Int) (T : Sg) : Sg := (false, Mo.lst (Q.dI xs)) :: (false, Mo.lst [.ref 0, .d (.int b), .d (.int c)]) :: T
theorem deckS_len {xs : List Int} {b c : Int} {T : Sg} : (deckS xs b c T).length = T.length + 2 := rfl
theorem deckS_get2 {xs : List Int} {b c : Int} {t : Bool × Mo} {T : Sg} : (deckS xs b c (t :: T))[2]? = some t := rfl
theorem deckS_set2 {xs : List Int} {b c : Int} {t u : Bool × Mo} {T : Sg} : (deckS xs b c (t :: T)).set 2 u = deckS xs b c (u :: T) := rfl
theorem dk_app {xs : List Int} {b c : Int} {T U : Sg} : deckS xs b c T ++ U = deckS xs b c (T ++ U) := rfl
theorem dk_get0 {xs : List Int} {b c : Int} {T : Sg} {u : Bool × Mo} : (deckS xs b c (T ++ [u]))[T.length + 2]? = some u := by
  show (T ++ [u])[T.length]? = _
  simp
theorem dk_set0 {xs : List Int} {b c : Int} {T : Sg} {u w : Bool × Mo} : (deckS xs b c (T ++ [u])).set (T.length + 2) w = deckS xs b c (T ++ [w]) := by
  show _ :: _ :: (T ++ [u]).set T.length w = _
  rw [List.set_append_right _ _ (Nat.le_refl _), Nat.sub_self]
  rfl
theorem dk_get1 {xs : List Int} {b c : Int} {T : Sg} {u v : Bool × Mo} : (deckS xs b c (T ++ [u, v]))[T.length + 3]? = some v := by
  show (T ++ [u, v])[T.length + 1]? = _
  simp
theorem dk_set1 {xs : List Int} {b c : Int} {T : Sg} {u v w : Bool × Mo} : (deckS xs b c (T ++ [u, v])).set (T.length + 3) w = deckS xs b c (T ++ [u, w]) := by
  show _ :: _ :: (T ++ [u, v]).set (T.length + 1) w = _
  rw [List.set_append_right _ _ (by omega), show T.length + 1 - T.length = 1 by omega]
  rfl
theorem deckS_len1 {xs : List Int} {b c : Int} {T : Sg} {u : Bool × Mo} : (deckS xs b c (T ++ [u])).length = T.length + 3 := by
  show (T ++ [u]).length + 1 + 1 = _
  simp
theorem dk_trim {xs : List Int} {b c : Int} {T U : Sg} {n : Nat} (hn : n = T.length + 2) (hU : U.all (·.1) = true) : trim n (deckS xs b c (T ++ U)) = deckS xs b c T := by
  rw [← dk_app]
  exact Q.trim_app (by rw [hn]; rfl) hU
theorem deck_spec {ns : List Int} (h : ns.length ≤ 63) : ∃ (xs : List Int) (b : Int), f_L_deck [.d (.list (ns.map PyData.int))] [] = .ok (.ref 1) (deckS xs b 0 []) ∧ xs.length ≤ 63 := by
  suffices e : ∃ b : Int, f_L_deck [.d (.list (ns.map PyData.int))] [] = .ok (.ref 1) (deckS ns.reverse b 0 []) from let ⟨b, e⟩ := e; ⟨_, b, e, by rw [List.length_reverse]; exact h⟩
  have hm : ∀ (ρ : Rho) (S : Sg), ρ.length = 3 → lcLoop (mgName 2) mYes e_L_deck_1 ρ ((ns.map PyData.int).map .d) [] S = .ok (((ns.map (· % 1000003)).map PyData.int).map .d) S := by
    intro ρ S hρ
    have := @Q.lc_mapF ρ S Int (mgName 2) e_L_deck_1 (fun n => .d (.int n)) (fun n => .d (.int (n % 1000003))) ns [] (fun a _ => ⟨ρ.set 2 (some (.d (.int a))), rfl, by
      obtain ⟨x, y, z, rfl⟩ : ∃ x y z, ρ = [x, y, z] := by
        match ρ, hρ with
        | [x, y, z], _ => exact ⟨x, y, z, rfl⟩
      unfold e_L_deck_1
      walk_at "mm", rfl⟩) (by rw [PySem.sizeLine_eq]; simp; omega)
    simpa [List.map_map, Function.comp_def] using this
  unfold f_L_deck m_L_deck deckS
  walk_at "mm"
  rw [show (63 : Int) = ((63 : Nat) : Int) from rfl, Q.cutL_to, List.take_of_length_le h, ← List.map_reverse, ← List.map_reverse, hm _ _ rfl]
  walk_at "mm"
  exact ⟨_, rfl⟩

/-! the deck as one thing -/
structure Dk where
  xs : List Int
  b : Int
  c : Int
  h : xs.length ≤ 63
def dS (D : Dk) (T : Sg) : Sg := deckS D.xs D.b D.c T
theorem dS_len {D : Dk} {T : Sg} : (dS D T).length = T.length + 2 := rfl
theorem dS_app {D : Dk} {T U : Sg} : dS D T ++ U = dS D (T ++ U) := rfl
theorem draw_ex (D : Dk) (k : Nat) : ∃ (r : Fin (k - 1 + 1)) (E : Dk), 0 < k → k < 2 ^ 30 → ∀ T, f_L_draw [.ref 1, .d (.int (k : Nat))] (dS D T) = .ok (.d (.int (r.val : Nat))) (dS E T) := by
  by_cases hk : 0 < k ∧ k < 2 ^ 30
  · obtain ⟨xs, b, c, hl⟩ := D
    suffices h : ∃ (z : Int) (ys : List Int) (c' : Int), (∀ T, f_L_draw [.ref 1, .d (.int (k : Nat))] (deckS xs b c T) = .ok (.d (.int (z % (k : Nat)))) (deckS ys b c' T)) ∧ ys.length ≤ 63 by
      obtain ⟨z, ys, c', h, hy⟩ := h
      have h0 := Int.emod_nonneg z (show ((k : Nat) : Int) ≠ 0 by omega)
      have h1 := Int.emod_lt_of_pos z (show (0 : Int) < (k : Nat) by omega)
      refine ⟨⟨(z % (k : Nat)).toNat, by omega⟩, ⟨ys, b, c', hy⟩, fun _ _ T => ?_⟩
      show f_L_draw _ (deckS xs b c T) = .ok (.d (.int (((z % (k : Nat)).toNat : Nat) : Int))) (deckS ys b c' T)
      rw [h T, Int.toNat_of_nonneg h0]
    obtain ⟨hk0, hk2⟩ := hk
    have hk' : (0 : Int) < (k : Nat) := by omega
    have hk3 : ((k : Nat) : Int) < 2 ^ 30 := by omega
    generalize ((k : Nat) : Int) = k at hk' hk3
    have p1 : ∀ z : Int, 0 ≤ z % 2147483647 ∧ z % 2147483647 < 2147483647 := fun z => ⟨Int.emod_nonneg _ (by decide), Int.emod_lt_of_pos _ (by decide)⟩
    have p2 : ∀ z : Int, 0 ≤ z % 2147483587 ∧ z % 2147483587 < 2147483587 := fun z => ⟨Int.emod_nonneg _ (by decide), Int.emod_lt_of_pos _ (by decide)⟩
    rcases List.eq_nil_or_concat xs with rfl | ⟨ys, x, rfl⟩
    · refine ⟨?z, [], c + 1, fun T => ?h, by simp⟩
      case h =>
        unfold f_L_draw m_L_draw deckS
        walk_at "mm"
        simp only [List.map_nil, List.isEmpty_nil, Bool.not_true]
        walk_at "mm"
        exact rfl
    · rw [List.concat_eq_append] at hl ⊢
      have hl' : ys.length < 63 := by simp at hl; omega
      have e1 : (List.map PyData.int (ys ++ [x])).isEmpty = false := by simp
      by_cases hx : x ≥ 10 ^ 18
      · refine ⟨x, ys ++ [x / k], c + 1, fun T => ?_, by simpa using hl⟩
        unfold f_L_draw m_L_draw deckS
        walk_at "mm"
        simp only [e1, Bool.not_false]
        walk_at "mm"
        have e2 : decide ((10 : Int) ^ Int.toNat 18 ≤ x) = true := decide_eq_true (by simpa using hx)
        simp only [e2]
        walk_at "mm"
      · refine ⟨?y, ys, c + 1, fun T => ?g, by omega⟩
        case g =>
          unfold f_L_draw m_L_draw deckS
          walk_at "mm"
          simp only [e1, Bool.not_false]
          walk_at "mm"
          have e2 : decide ((10 : Int) ^ Int.toNat 18 ≤ x) = false := decide_eq_false (by simpa using hx)
          simp only [e2]
          walk_at "mm"
          exact rfl
  · exact ⟨⟨0, by omega⟩, D, fun a b => absurd ⟨a, b⟩ hk⟩
noncomputable def dr (D : Dk) (k : Nat) : Fin (k - 1 + 1) := Classical.choose (draw_ex D k)
noncomputable def nx (D : Dk) (k : Nat) : Dk := Classical.choose (Classical.choose_spec (draw_ex D k))
theorem draw_nat {D : Dk} {T : Sg} {k : Nat} (h : 0 < k ∧ k < 2 ^ 30) : f_L_draw [.ref 1, .d (.int (k : Nat))] (dS D T) = .ok (.d (.int ((dr D k).val : Nat))) (dS (nx D k) T) :=
  Classical.choose_spec (Classical.choose_spec (draw_ex D k)) h.1 h.2 T
theorem draw_int {D : Dk} {T : Sg} {k : Int} (h : 0 < k ∧ k < 2 ^ 30) : f_L_draw [.ref 1, .d (.int k)] (dS D T) = .ok (.d (.int ((dr D k.toNat).val : Nat))) (dS (nx D k.toNat) T) := by
  obtain ⟨n, rfl⟩ : ∃ n : Nat, k = n := ⟨k.toNat, by omega⟩
  rw [Int.toNat_natCast]
  exact draw_nat ⟨by omega, by omega⟩

theorem deck_eq {ns : List Int} (h : ns.length ≤ 63) : ∃ D : Dk, f_L_deck [.d (.list (ns.map PyData.int))] [] = .ok (.ref 1) (dS D []) := by
  obtain ⟨xs, b, e, hx⟩ := deck_spec h
  exact ⟨⟨xs, b, 0, hx⟩, e⟩
theorem dS_get {D : Dk} {T : Sg} {i : Nat} : (dS D T)[i + 2]? = T[i]? := rfl
theorem dS_set {D : Dk} {T : Sg} {i : Nat} {w : Bool × Mo} : (dS D T).set (i + 2) w = dS D (T.set i w) := rfl
section
variable {T U : Sg} {u v w x : Bool × Mo}
theorem sg_app : T ++ U ++ [u] = T ++ (U ++ [u]) := List.append_assoc ..
theorem sg_app2 : T ++ U ++ [u, v] = T ++ (U ++ [u, v]) := List.append_assoc ..
theorem ag0 : (T ++ u :: U)[T.length]? = some u := by simp
theorem ag1 : (T ++ u :: v :: U)[T.length + 1]? = some v := by simp
theorem ag2 : (T ++ u :: v :: w :: U)[T.length + 2]? = some w := by simp
theorem ag3 : (T ++ u :: v :: w :: x :: U)[T.length + 3]? = some x := by simp
theorem as0 {z : Bool × Mo} : (T ++ u :: U).set T.length z = T ++ z :: U := by
  rw [List.set_append_right _ _ (Nat.le_refl _), Nat.sub_self]; rfl
theorem as1 {z : Bool × Mo} : (T ++ u :: v :: U).set (T.length + 1) z = T ++ u :: z :: U := by
  rw [List.set_append_right _ _ (by omega), show T.length + 1 - T.length = 1 by omega]; rfl
theorem as2 {z : Bool × Mo} : (T ++ u :: v :: w :: U).set (T.length + 2) z = T ++ u :: v :: z :: U := by
  rw [List.set_append_right _ _ (by omega), show T.length + 2 - T.length = 2 by omega]; rfl
theorem as3 {z : Bool × Mo} : (T ++ u :: v :: w :: x :: U).set (T.length + 3) z = T ++ u :: v :: w :: z :: U := by
  rw [List.set_append_right _ _ (by omega), show T.length + 3 - T.length = 3 by omega]; rfl
theorem al1 : (T ++ [u]).length + 2 = T.length + 3 := by simp
theorem al2 : (T ++ [u, v]).length + 2 = T.length + 4 := by simp
theorem al3 : (T ++ [u, v, w]).length + 2 = T.length + 5 := by simp
theorem dS_trim {D : Dk} (h : U.all (·.1) = true) : trim (T.length + 2) (dS D (T ++ U)) = dS D T := by
  rw [← dS_app]
  exact Q.trim_app rfl h
theorem dS_trim0 {D : Dk} : trim (T.length + 2) (dS D T) = dS D T := Q.trim_same rfl
theorem dS_trimc {D : Dk} (h : U.all (·.1) = true) : trim 2 (dS D U) = dS D [] := dS_trim (T := []) h
/-- many times something drawn -/
theorem lc_dk {T : Sg} {ρ : Rho} {g : MG} {te : ME} {R : Mv → Prop} {xs : List Mv} {D : Dk} (h : ∀ x ∈ xs, ∀ D, ∃ ρ1 y E, g (dS D T) x ρ = some ρ1 ∧ te ρ1 (dS D T) = .ok y (dS E T) ∧ y.free = true ∧ R y) (hl : xs.length ≤ 16777216) :
    ∃ ys E, lcLoop g mYes te ρ xs [] (dS D T) = .ok ys (dS E T) ∧ ys.length = xs.length ∧ ∀ y ∈ ys, R y := by
  obtain ⟨ys, S2, e, e1, e2, E, rfl⟩ := @Q.lc_ex ρ g te (fun S => ∃ D, S = dS D T) R xs [] (dS D T) (fun x hx S ⟨D, hD⟩ => by
    subst hD
    obtain ⟨ρ1, y, E, h1, h2, h3, h4⟩ := h x hx D
    exact ⟨ρ1, y, dS E T, h1, h2, h3, h4, E, rfl⟩) ⟨D, rfl⟩ (by rw [PySem.sizeLine_eq]; simpa using hl)
  exact ⟨ys, E, e, e1, e2⟩
end
theorem seq_to {a b : MS} {ρ ρ1 : Rho} {S S1 : Sg} {r : RS} (h : a ρ S = .nx ρ1 S1) (h2 : b ρ1 S1 = r) : mSeq a b ρ S = r := by rw [Q.ev_seq, h]; exact h2

end Law
end
section
set_option Elab.async false
set_option linter.all false
set_option maxRecDepth 100000
set_option maxHeartbeats 4000000
set_option autoImplicit false
namespace Law
open PySem PySem.Spec PyProof.Rows L2 MM
local macro_rules | `(tactic| walk_at "mm") => `(tactic| simp (disch := first | assumption | omega | exact MM.Q.shaped_int | exact MM.Q.shaped_nil | exact MM.Q.shaped_ints | exact MM.Q.shaped_bool | (refine of_eq_true (eq_true ?_); first | with_unfolding_all rfl | (simp only [MM.Q.free_d, MM.Q.free_ref, MM.Q.free_adr, MM.Q.frees_nil, MM.Q.frees_cons, MM.Q.frees_map, Bool.and_true, Bool.true_and]; done)) | (simp only [List.length_cons, List.length_nil, List.append_nil, List.map_cons, List.map_nil, List.length_append, List.length_map, List.length_reverse, MM.Q.dI_len, PySem.sizeLine_eq]; omega)) only [MM.Q.bind_ok, MM.Q.bind_exc, MM.Q.go_ok, MM.Q.go_exc, MM.Q.nox_ok, MM.Q.vr_some, MM.Q.ev_var, MM.Q.ev_c, MM.Q.ev_k, MM.Q.frzO_some, MM.Q.tupO_some, MM.Q.tupO_none, MM.Q.bear_val, MM.Q.bear_frz, MM.Q.bear_ref, MM.Q.bear_own, MM.Q.bear_tup, MM.Q.allD_nil, MM.Q.allD_cons, MM.Q.allD_map, MM.Q.bearO_some, MM.Q.ev_bin, MM.Q.ev_bin1, MM.Q.ev_bin2, MM.Q.add_int, MM.Q.sub_int, MM.Q.mul_int, MM.Q.mod_int, MM.Q.fdiv_int, MM.Q.pow_int, MM.Q.intB_int, MM.Q.datO_f, MM.Q.datO_t, MM.Q.data_d, MM.Q.data_ref, MM.Q.data_own, MM.Q.ev_eq_r, MM.Q.ev_eq_o, MM.Q.ev_eq_l, MM.Q.ev_eq_t, MM.Q.ev_eq_i, MM.Q.ev_eq_b, MM.Q.ev_eq_n, MM.Q.ev_eq_st, MM.Q.ev_eq_sf, MM.Q.eqO_some, MM.Q.eqC_t, MM.Q.eqC_f, MM.Q.eqv_nil, MM.Q.eqv_int, MM.Q.eqv_bool, MM.Q.in_str, MM.Q.notIn_str, MM.Q.is_bool, MM.Q.isnot_bool, MM.Q.tst_bool, MM.Q.ev_tst, MM.Q.ev_truth, MM.Q.ev_tru, MM.Q.truO_some, MM.Q.truth_bool, MM.Q.truth_int, MM.Q.truth_none, MM.Q.truth_list, MM.Q.truth_tup, MM.Q.ev_andB, MM.Q.ev_orB, MM.Q.ev_notB, MM.Q.andB_t, MM.Q.andB_f, MM.Q.orB_t, MM.Q.orB_f, MM.Q.ev_notB1, MM.Q.ev_and, MM.Q.ev_or, MM.Q.and_tB, MM.Q.and_fB, MM.Q.or_tB, MM.Q.or_fB, MM.Q.ev_not, MM.Q.ev_not1, MM.Q.notO_some, MM.Q.ev_ifE, MM.Q.ifE_t, MM.Q.ifE_f, MM.Q.ev_nil, MM.Q.ev_cons, MM.Q.ev_cons1, MM.Q.ev_cons2, MM.Q.ev_disp, MM.Q.disp_lst, MM.Q.disp_tup, MM.Q.frees_nil, MM.Q.frees_cons, MM.Q.free_d, MM.Q.free_ref, MM.Q.free_adr, MM.Q.dI_snoc, MM.Q.dI_len, MM.Q.allD_dI, MM.Q.dI_nil, MM.Q.allD_dIs, MM.Q.frees_map, MM.Q.ev_cb, MM.Q.ev_cb1, MM.Q.ev_call, MM.Q.ev_call1, MM.Q.ev_call0, MM.Q.ev_callK, MM.Q.ev_callK1, MM.Q.ev_callK2, MM.Q.ldd_some, MM.Q.laid_nil, MM.Q.laid_k, MM.Q.laid_p, MM.Q.ixO_some, MM.Q.ev_ix, MM.Q.ev_ix1, MM.Q.ev_ix2, MM.Q.ix_list, MM.Q.ix_tup, MM.Q.refS_lst, MM.Q.refS_tup, MM.Q.seq_ref, MM.Q.seq_own, MM.Q.seq_list, MM.Q.seq_tup, MM.Q.ixK_some, MM.Q.ix_ref, MM.Q.ix_own, MM.Q.listO_f, MM.Q.ev_list, MM.Q.at0, MM.Q.at1, MM.Q.at2, MM.Q.at3, MM.Q.at4, MM.Q.ixN0, MM.Q.ixN1, MM.Q.ixN2, MM.Q.ev_oN, MM.Q.ev_oS, MM.Q.oS_int, MM.Q.ev_sl, MM.Q.ev_sl1, MM.Q.ev_sl2, MM.Q.ev_sl3, MM.Q.ev_rev, MM.Q.rev_list, MM.Q.ev_bm, MM.Q.ev_bm1, MM.Q.cBM_t, MM.Q.ev_bm2, MM.Q.buO_some, MM.Q.ev_bu, MM.Q.ev_bu1, MM.Q.cBU_t, MM.Q.ev_bu2, MM.Q.ty_str, MM.Q.tyO_some, MM.Q.ty_ref, MM.Q.ty_own, MM.Q.ty_list, MM.Q.beq_ll, MM.Q.beq_ss, MM.Q.celO_some, MM.Q.cell_ref, MM.Q.cell_own, MM.Q.ev_append, MM.Q.appO_some, MM.Q.ev_extend, MM.Q.extO_some, MM.Q.ev_pop, MM.Q.popO_snoc, MM.Q.ev_ind, MM.Q.ev_ind1, MM.Q.ev_neg, MM.Q.neg_int, MM.Q.ev_iter, MM.Q.ev_it, MM.Q.itO_some, MM.Q.items_list, MM.Q.items_tup, MM.Q.ev_rg1, MM.Q.rg1_int, MM.Q.ev_lc, MM.Q.ev_lc1, MM.Q.ev_lc2, MM.Q.wipe_nil, MM.Q.wipe_cons, MM.Q.ev_seq, MM.Q.seq_nx, MM.Q.seq_rt, MM.Q.seq_exc, MM.Q.seq_bk, MM.Q.seq_ct, MM.Q.ev_asg, MM.Q.ev_asg1, MM.Q.nxO_some, MM.Q.mg_name, MM.Q.mg_nil, MM.Q.mg_consN, MM.Q.mg_tup, MM.Q.ev_expr, MM.Q.ev_expr1, MM.Q.ev_ret, MM.Q.ev_ret1, MM.Q.ev_retN, MM.Q.ev_skip, MM.Q.ev_brk, MM.Q.ev_cnt, MM.Q.ev_if, MM.Q.if_t, MM.Q.if_f, MM.Q.ev_for, MM.Q.ev_for1, MM.Q.ev_fz, MM.Q.fz_own, MM.Q.fzC_some, MM.Q.fzO_some, MM.Q.fz_d, MM.Q.fz_ref, MM.Q.stO_some, MM.Q.ev_st, MM.Q.ev_st1, MM.Q.ev_st2, MM.Q.ev_st3, MM.Q.ev_setIx, MM.Q.siO_some, MM.Q.ev_par, MM.Q.ev_par1, MM.Q.nones_zero, MM.Q.nones_succ, MM.Q.begin_eq,  MM.Q.ev_fn, MM.Q.fin_rt, MM.Q.fin_ref, MM.Q.fin_nx, MM.Q.trim_same, MM.Q.trim_app, MM.Q.ev_len, MM.Q.ev_lst_l, MM.Q.ev_lst_t, MM.Q.ev_lst_r, MM.Q.ev_lst_o, MM.Q.ev_l1, MM.Q.ev_sum, MM.Q.ev_all, MM.Q.ev_any, MM.Q.ev_isi, MM.Q.kind_str, MM.Q.kind_int, MM.Q.kind_bool, MM.Q.kind_none, MM.Q.kind_dict, MM.Q.kind_list, MM.Q.kind_tup, MM.Q.kit_ss, MM.Q.kit_is, MM.Q.kit_bs, MM.Q.kit_ns, MM.Q.kit_ds, MM.Q.kit_ls, MM.Q.kit_ts, MM.Q.ev_repr, MM.Q.ev_join, MM.Q.lenO_some, MM.Q.len_list, MM.Q.len_tup, MM.Q.lnO_some, MM.Q.len_ref, MM.Q.len_own, MM.Q.lisO_some, MM.Q.l1O_some, MM.Q.ints_map, MM.Q.bools_map, MM.Q.strs_map, MM.Q.isiO_some, MM.Q.jnO_some, MM.Q.len_st, MM.Q.add_st, MM.Q.mul_st, MM.Q.ix_st, MM.Q.sl_st, MM.Q.rev_st, MM.Q.eqv_st, MM.Q.st_dec, MM.Q.divmod_int, MM.Q.items_st, MM.Q.allD_mapf, MM.Q.strs_mapf, MM.Q.ints_mapf, MM.Q.bools_mapf, MM.Q.join_ones_some, MM.Q.sl_own, MM.Q.sl_ref, MM.Q.sl_list, MM.Q.slO_some, MM.Q.add_own, MM.Q.add_ref, MM.Q.add_list, MM.Q.catO_some, MM.Q.cutL_map, MM.Q.mg_tupL, MM.Q.ev_ch, MM.Q.ev_ch1, MM.Q.ev_ch2, MM.Q.ch_t, MM.Q.ch_f, MM.Q.ev_ch3, MM.Q.starts_str, MM.Q.ends_str, MM.Q.upper_str, MM.Q.part_str, MM.Q.ev_fmt, MM.Q.ev_fmtR, MM.Q.fmt_st, MM.Q.fmt_int, MM.Q.ev_js_nil, MM.Q.ev_js_cons, MM.Q.ev_js1, MM.Q.ev_js2, MM.Q.jsF_some, MM.Q.js_st, MM.Q.ev_pr_nil, MM.Q.ev_pr_cons, MM.Q.ev_pr1, MM.Q.ev_pr2, MM.Q.ev_pr3, MM.Q.ev_dct, MM.Q.ev_dct1, MM.Q.keys_one, MM.Q.dctF_one, MM.Q.tup_list, MM.Q.tup_tup, MM.Q.tup_st, MM.Q.lst_st, MM.Q.mul_list, MM.Q.mul_tup, MM.Q.ev_popK, MM.Q.in_own, MM.Q.in_ref, MM.Q.in_list, MM.Q.inO_t, MM.Q.inO_f, MM.Q.b2i_t, MM.Q.b2i_f, MM.Q.int_int, MM.Q.int_bool, MM.Q.ev_rg2, MM.Q.rg2_int, MM.Q.ev_en, MM.Q.en_list, MM.Q.en_tup, MM.Q.en_st, MM.Q.ev_sortSc, MM.Q.ev_lenSc, MM.Q.ev_sc1, MM.Q.ev_scL1, MM.Q.ev_sc2, MM.Q.ev_scL2, 
  List.map_cons, List.map_nil, List.length_cons, List.length_nil, List.append_nil, List.nil_append, List.cons_append, List.getElem?_cons_zero, List.getElem?_cons_succ, List.set_cons_zero, List.set_cons_succ, Bool.and_true, Bool.true_and, Option.bind_some, Option.map_some, Nat.reduceAdd, Nat.reduceSub, Nat.add_sub_cancel, Nat.sub_self])
--- imports 
/-! signs, letters, figures -/
abbrev mS (l : List Nat) : Mv := .d (.str (Q.st l))
abbrev pS (l : List Nat) : PyData := .str (Q.st l)
def isG (c : Nat) : Bool := c == 10 || (decide (32 ≤ c) && decide (c ≤ 126) && c != 37)
def sgs : List Nat := (List.range 95).map fun i => if i = 0 then 10 else if i < 6 then i + 31 else i + 32
def lets : List Nat := (List.range 26).map (97 + ·)
def fgs : List Nat := [48, 49, 50, 51, 52, 53, 54, 55, 56, 57, 97, 98, 99, 100, 102, 103, 104, 105, 106, 107, 108, 109, 110, 112, 113, 114, 115, 118, 119, 120, 121, 122]
theorem isG_lt {c : Nat} (h : isG c = true) : c < 127 := by
  unfold isG at h; simp at h; omega
theorem isG_mem {c : Nat} : decide (c ∈ sgs) = isG c := by
  by_cases h : c < 127
  · have : ∀ c < 127, decide (c ∈ sgs) = isG c := by decide +kernel
    exact this c h
  · have h1 : isG c = false := by
      cases e : isG c with
      | false => rfl
      | true => exact absurd (isG_lt e) h
    have h2 : ∀ d ∈ sgs, d < 127 := by decide +kernel
    rw [h1, decide_eq_false fun z => h (h2 c z)]
theorem lit_s : (Str.ofString "\n !\"#$&'()*+,-./0123456789:;<=>?@ABCDEFGHIJKLMNOPQRSTUVWXYZ[\\]^_`abcdefghijklmnopqrstuvwxyz{|}~") = Q.st sgs := by decide +kernel
theorem lit_l : (Str.ofString "abcdefghijklmnopqrstuvwxyz") = Q.st lets := by decide +kernel
theorem lit_f : (Str.ofString "0123456789abcdfghijklmnpqrsvwxyz") = Q.st fgs := by decide +kernel
theorem lit_e : (Str.ofString "") = Q.st [] := by decide +kernel
theorem fgs_len : fgs.length = 32 := by decide
theorem sgs_len : sgs.length = 95 := by decide
theorem lets_len : lets.length = 26 := by decide
theorem lets_good {c : Nat} (h : c ∈ lets) : isG c = true := by
  have : ∀ c ∈ lets, isG c = true := by decide
  exact this c h
theorem fgs_good {c : Nat} (h : c ∈ fgs) : isG c = true := by
  have : ∀ c ∈ fgs, isG c = true := by decide
  exact this c h
theorem isG_ok {c : Nat} (h : isG c = true) : c < 0x110000 := by have := isG_lt h; omega
def wordB (l : List Nat) : Bool := decide (1 ≤ l.length) && (decide (l.length ≤ 8) && l.all fun c => decide (c ∈ lets))
def markB (l : List Nat) : Bool := decide (l.length = 8) && l.all fun c => decide (c ∈ fgs)
theorem notin_one {c : Nat} {z : List Nat} : inStr (Q.st [c]) (Q.st z) = decide (c ∈ z) := by rw [Q.in_sign, Q.cs_st]

end Law
end
section
set_option Elab.async false
set_option linter.all false
set_option maxRecDepth 100000
set_option maxHeartbeats 4000000
set_option autoImplicit false
namespace Law
open PySem PySem.Spec PyProof.Rows L2 MM
local macro_rules | `(tactic| walk_at "mm") => `(tactic| simp (disch := first | assumption | omega | exact MM.Q.shaped_int | exact MM.Q.shaped_nil | exact MM.Q.shaped_ints | exact MM.Q.shaped_bool | (refine of_eq_true (eq_true ?_); first | with_unfolding_all rfl | (simp only [MM.Q.free_d, MM.Q.free_ref, MM.Q.free_adr, MM.Q.frees_nil, MM.Q.frees_cons, MM.Q.frees_map, Bool.and_true, Bool.true_and]; done)) | (simp only [List.length_cons, List.length_nil, List.append_nil, List.map_cons, List.map_nil, List.length_append, List.length_map, List.length_reverse, MM.Q.dI_len, PySem.sizeLine_eq]; omega)) only [MM.Q.bind_ok, MM.Q.bind_exc, MM.Q.go_ok, MM.Q.go_exc, MM.Q.nox_ok, MM.Q.vr_some, MM.Q.ev_var, MM.Q.ev_c, MM.Q.ev_k, MM.Q.frzO_some, MM.Q.tupO_some, MM.Q.tupO_none, MM.Q.bear_val, MM.Q.bear_frz, MM.Q.bear_ref, MM.Q.bear_own, MM.Q.bear_tup, MM.Q.allD_nil, MM.Q.allD_cons, MM.Q.allD_map, MM.Q.bearO_some, MM.Q.ev_bin, MM.Q.ev_bin1, MM.Q.ev_bin2, MM.Q.add_int, MM.Q.sub_int, MM.Q.mul_int, MM.Q.mod_int, MM.Q.fdiv_int, MM.Q.pow_int, MM.Q.intB_int, MM.Q.datO_f, MM.Q.datO_t, MM.Q.data_d, MM.Q.data_ref, MM.Q.data_own, MM.Q.ev_eq_r, MM.Q.ev_eq_o, MM.Q.ev_eq_l, MM.Q.ev_eq_t, MM.Q.ev_eq_i, MM.Q.ev_eq_b, MM.Q.ev_eq_n, MM.Q.ev_eq_st, MM.Q.ev_eq_sf, MM.Q.eqO_some, MM.Q.eqC_t, MM.Q.eqC_f, MM.Q.eqv_nil, MM.Q.eqv_int, MM.Q.eqv_bool, MM.Q.in_str, MM.Q.notIn_str, MM.Q.is_bool, MM.Q.isnot_bool, MM.Q.tst_bool, MM.Q.ev_tst, MM.Q.ev_truth, MM.Q.ev_tru, MM.Q.truO_some, MM.Q.truth_bool, MM.Q.truth_int, MM.Q.truth_none, MM.Q.truth_list, MM.Q.truth_tup, MM.Q.ev_andB, MM.Q.ev_orB, MM.Q.ev_notB, MM.Q.andB_t, MM.Q.andB_f, MM.Q.orB_t, MM.Q.orB_f, MM.Q.ev_notB1, MM.Q.ev_and, MM.Q.ev_or, MM.Q.and_tB, MM.Q.and_fB, MM.Q.or_tB, MM.Q.or_fB, MM.Q.ev_not, MM.Q.ev_not1, MM.Q.notO_some, MM.Q.ev_ifE, MM.Q.ifE_t, MM.Q.ifE_f, MM.Q.ev_nil, MM.Q.ev_cons, MM.Q.ev_cons1, MM.Q.ev_cons2, MM.Q.ev_disp, MM.Q.disp_lst, MM.Q.disp_tup, MM.Q.frees_nil, MM.Q.frees_cons, MM.Q.free_d, MM.Q.free_ref, MM.Q.free_adr, MM.Q.dI_snoc, MM.Q.dI_len, MM.Q.allD_dI, MM.Q.dI_nil, MM.Q.allD_dIs, MM.Q.frees_map, MM.Q.ev_cb, MM.Q.ev_cb1, MM.Q.ev_call, MM.Q.ev_call1, MM.Q.ev_call0, MM.Q.ev_callK, MM.Q.ev_callK1, MM.Q.ev_callK2, MM.Q.ldd_some, MM.Q.laid_nil, MM.Q.laid_k, MM.Q.laid_p, MM.Q.ixO_some, MM.Q.ev_ix, MM.Q.ev_ix1, MM.Q.ev_ix2, MM.Q.ix_list, MM.Q.ix_tup, MM.Q.refS_lst, MM.Q.refS_tup, MM.Q.seq_ref, MM.Q.seq_own, MM.Q.seq_list, MM.Q.seq_tup, MM.Q.ixK_some, MM.Q.ix_ref, MM.Q.ix_own, MM.Q.listO_f, MM.Q.ev_list, MM.Q.at0, MM.Q.at1, MM.Q.at2, MM.Q.at3, MM.Q.at4, MM.Q.ixN0, MM.Q.ixN1, MM.Q.ixN2, MM.Q.ev_oN, MM.Q.ev_oS, MM.Q.oS_int, MM.Q.ev_sl, MM.Q.ev_sl1, MM.Q.ev_sl2, MM.Q.ev_sl3, MM.Q.ev_rev, MM.Q.rev_list, MM.Q.ev_bm, MM.Q.ev_bm1, MM.Q.cBM_t, MM.Q.ev_bm2, MM.Q.buO_some, MM.Q.ev_bu, MM.Q.ev_bu1, MM.Q.cBU_t, MM.Q.ev_bu2, MM.Q.ty_str, MM.Q.tyO_some, MM.Q.ty_ref, MM.Q.ty_own, MM.Q.ty_list, MM.Q.beq_ll, MM.Q.beq_ss, MM.Q.celO_some, MM.Q.cell_ref, MM.Q.cell_own, MM.Q.ev_append, MM.Q.appO_some, MM.Q.ev_extend, MM.Q.extO_some, MM.Q.ev_pop, MM.Q.popO_snoc, MM.Q.ev_ind, MM.Q.ev_ind1, MM.Q.ev_neg, MM.Q.neg_int, MM.Q.ev_iter, MM.Q.ev_it, MM.Q.itO_some, MM.Q.items_list, MM.Q.items_tup, MM.Q.ev_rg1, MM.Q.rg1_int, MM.Q.ev_lc, MM.Q.ev_lc1, MM.Q.ev_lc2, MM.Q.wipe_nil, MM.Q.wipe_cons, MM.Q.ev_seq, MM.Q.seq_nx, MM.Q.seq_rt, MM.Q.seq_exc, MM.Q.seq_bk, MM.Q.seq_ct, MM.Q.ev_asg, MM.Q.ev_asg1, MM.Q.nxO_some, MM.Q.mg_name, MM.Q.mg_nil, MM.Q.mg_consN, MM.Q.mg_tup, MM.Q.ev_expr, MM.Q.ev_expr1, MM.Q.ev_ret, MM.Q.ev_ret1, MM.Q.ev_retN, MM.Q.ev_skip, MM.Q.ev_brk, MM.Q.ev_cnt, MM.Q.ev_if, MM.Q.if_t, MM.Q.if_f, MM.Q.ev_for, MM.Q.ev_for1, MM.Q.ev_fz, MM.Q.fz_own, MM.Q.fzC_some, MM.Q.fzO_some, MM.Q.fz_d, MM.Q.fz_ref, MM.Q.stO_some, MM.Q.ev_st, MM.Q.ev_st1, MM.Q.ev_st2, MM.Q.ev_st3, MM.Q.ev_setIx, MM.Q.siO_some, MM.Q.ev_par, MM.Q.ev_par1, MM.Q.nones_zero, MM.Q.nones_succ, MM.Q.begin_eq, draw_int, dS_len, dS_app, dS_get, dS_set, sg_app, sg_app2, ag0, ag1, ag2, ag3, as0, as1, as2, as3, al1, al2, al3, dS_trim, dS_trim0, dS_trimc, Int.reduceToNat, Int.toNat_natCast, List.length_map,  MM.Q.ev_fn, MM.Q.fin_rt, MM.Q.fin_ref, MM.Q.fin_nx, MM.Q.trim_same, MM.Q.trim_app, MM.Q.ev_len, MM.Q.ev_lst_l, MM.Q.ev_lst_t, MM.Q.ev_lst_r, MM.Q.ev_lst_o, MM.Q.ev_l1, MM.Q.ev_sum, MM.Q.ev_all, MM.Q.ev_any, MM.Q.ev_isi, MM.Q.kind_str, MM.Q.kind_int, MM.Q.kind_bool, MM.Q.kind_none, MM.Q.kind_dict, MM.Q.kind_list, MM.Q.kind_tup, MM.Q.kit_ss, MM.Q.kit_is, MM.Q.kit_bs, MM.Q.kit_ns, MM.Q.kit_ds, MM.Q.kit_ls, MM.Q.kit_ts, MM.Q.ev_repr, MM.Q.ev_join, MM.Q.lenO_some, MM.Q.len_list, MM.Q.len_tup, MM.Q.lnO_some, MM.Q.len_ref, MM.Q.len_own, MM.Q.lisO_some, MM.Q.l1O_some, MM.Q.ints_map, MM.Q.bools_map, MM.Q.strs_map, MM.Q.isiO_some, MM.Q.jnO_some, MM.Q.len_st, MM.Q.add_st, MM.Q.mul_st, MM.Q.ix_st, MM.Q.sl_st, MM.Q.rev_st, MM.Q.eqv_st, MM.Q.st_dec, MM.Q.divmod_int, MM.Q.items_st, MM.Q.allD_mapf, MM.Q.strs_mapf, MM.Q.ints_mapf, MM.Q.bools_mapf, MM.Q.join_ones_some, MM.Q.sl_own, MM.Q.sl_ref, MM.Q.sl_list, MM.Q.slO_some, MM.Q.add_own, MM.Q.add_ref, MM.Q.add_list, MM.Q.catO_some, MM.Q.cutL_map, MM.Q.mg_tupL, MM.Q.ev_ch, MM.Q.ev_ch1, MM.Q.ev_ch2, MM.Q.ch_t, MM.Q.ch_f, MM.Q.ev_ch3, MM.Q.starts_str, MM.Q.ends_str, MM.Q.upper_str, MM.Q.part_str, MM.Q.ev_fmt, MM.Q.ev_fmtR, MM.Q.fmt_st, MM.Q.fmt_int, MM.Q.ev_js_nil, MM.Q.ev_js_cons, MM.Q.ev_js1, MM.Q.ev_js2, MM.Q.jsF_some, MM.Q.js_st, MM.Q.ev_pr_nil, MM.Q.ev_pr_cons, MM.Q.ev_pr1, MM.Q.ev_pr2, MM.Q.ev_pr3, MM.Q.ev_dct, MM.Q.ev_dct1, MM.Q.keys_one, MM.Q.dctF_one, MM.Q.tup_list, MM.Q.tup_tup, MM.Q.tup_st, MM.Q.lst_st, MM.Q.mul_list, MM.Q.mul_tup, MM.Q.ev_popK, MM.Q.in_own, MM.Q.in_ref, MM.Q.in_list, MM.Q.inO_t, MM.Q.inO_f, MM.Q.b2i_t, MM.Q.b2i_f, MM.Q.int_int, MM.Q.int_bool, MM.Q.ev_rg2, MM.Q.rg2_int, MM.Q.ev_en, MM.Q.en_list, MM.Q.en_tup, MM.Q.en_st, MM.Q.ev_sortSc, MM.Q.ev_lenSc, MM.Q.ev_sc1, MM.Q.ev_scL1, MM.Q.ev_sc2, MM.Q.ev_scL2, 
  List.map_cons, List.map_nil, List.length_cons, List.length_nil, List.append_nil, List.nil_append, List.cons_append, List.getElem?_cons_zero, List.getElem?_cons_succ, List.set_cons_zero, List.set_cons_succ, Bool.and_true, Bool.true_and, Option.bind_some, Option.map_some, Nat.reduceAdd, Nat.reduceSub, Nat.add_sub_cancel, Nat.sub_self])
--- imports deck sig
theorem spec_L_pick {xs : List PyData} (h : 0 < xs.length) (h2 : xs.length < 2 ^ 30) (D : Dk) (T : Sg) : ∃ (x : PyData) (E : Dk), f_L_pick [.ref 1, .d (.list xs)] (dS D T) = .ok (.d x) (dS E T) ∧ x ∈ xs := by
  have hr : (dr D xs.length).val < xs.length := by have := (dr D xs.length).isLt; omega
  obtain ⟨d, hd, e⟩ := Q.atI_mem (xs := xs.map Mv.d) (i := ((dr D xs.length).val : Nat)) (by omega) (by rw [List.length_map]; omega)
  obtain ⟨x, hx, rfl⟩ := List.mem_map.mp hd
  refine ⟨x, nx D xs.length, ?_, hx⟩
  unfold f_L_pick m_L_pick
  walk_at "mm"
  rw [e]
  walk_at "mm"

end Law
end
section
set_option Elab.async false
set_option linter.all false
set_option maxRecDepth 100000
set_option maxHeartbeats 4000000
set_option autoImplicit false
namespace Law
open PySem PySem.Spec PyProof.Rows L2 MM
local macro_rules | `(tactic| walk_at "mm") => `(tactic| simp (disch := first | assumption | omega | exact MM.Q.shaped_int | exact MM.Q.shaped_nil | exact MM.Q.shaped_ints | exact MM.Q.shaped_bool | (refine of_eq_true (eq_true ?_); first | with_unfolding_all rfl | (simp only [MM.Q.free_d, MM.Q.free_ref, MM.Q.free_adr, MM.Q.frees_nil, MM.Q.frees_cons, MM.Q.frees_map, Bool.and_true, Bool.true_and]; done)) | (simp only [List.length_cons, List.length_nil, List.append_nil, List.map_cons, List.map_nil, List.length_append, List.length_map, List.length_reverse, MM.Q.dI_len, PySem.sizeLine_eq]; omega)) only [MM.Q.bind_ok, MM.Q.bind_exc, MM.Q.go_ok, MM.Q.go_exc, MM.Q.nox_ok, MM.Q.vr_some, MM.Q.ev_var, MM.Q.ev_c, MM.Q.ev_k, MM.Q.frzO_some, MM.Q.tupO_some, MM.Q.tupO_none, MM.Q.bear_val, MM.Q.bear_frz, MM.Q.bear_ref, MM.Q.bear_own, MM.Q.bear_tup, MM.Q.allD_nil, MM.Q.allD_cons, MM.Q.allD_map, MM.Q.bearO_some, MM.Q.ev_bin, MM.Q.ev_bin1, MM.Q.ev_bin2, MM.Q.add_int, MM.Q.sub_int, MM.Q.mul_int, MM.Q.mod_int, MM.Q.fdiv_int, MM.Q.pow_int, MM.Q.intB_int, MM.Q.datO_f, MM.Q.datO_t, MM.Q.data_d, MM.Q.data_ref, MM.Q.data_own, MM.Q.ev_eq_r, MM.Q.ev_eq_o, MM.Q.ev_eq_l, MM.Q.ev_eq_t, MM.Q.ev_eq_i, MM.Q.ev_eq_b, MM.Q.ev_eq_n, MM.Q.ev_eq_st, MM.Q.ev_eq_sf, MM.Q.eqO_some, MM.Q.eqC_t, MM.Q.eqC_f, MM.Q.eqv_nil, MM.Q.eqv_int, MM.Q.eqv_bool, MM.Q.in_str, MM.Q.notIn_str, MM.Q.is_bool, MM.Q.isnot_bool, MM.Q.tst_bool, MM.Q.ev_tst, MM.Q.ev_truth, MM.Q.ev_tru, MM.Q.truO_some, MM.Q.truth_bool, MM.Q.truth_int, MM.Q.truth_none, MM.Q.truth_list, MM.Q.truth_tup, MM.Q.ev_andB, MM.Q.ev_orB, MM.Q.ev_notB, MM.Q.andB_t, MM.Q.andB_f, MM.Q.orB_t, MM.Q.orB_f, MM.Q.ev_notB1, MM.Q.ev_and, MM.Q.ev_or, MM.Q.and_tB, MM.Q.and_fB, MM.Q.or_tB, MM.Q.or_fB, MM.Q.ev_not, MM.Q.ev_not1, MM.Q.notO_some, MM.Q.ev_ifE, MM.Q.ifE_t, MM.Q.ifE_f, MM.Q.ev_nil, MM.Q.ev_cons, MM.Q.ev_cons1, MM.Q.ev_cons2, MM.Q.ev_disp, MM.Q.disp_lst, MM.Q.disp_tup, MM.Q.frees_nil, MM.Q.frees_cons, MM.Q.free_d, MM.Q.free_ref, MM.Q.free_adr, MM.Q.dI_snoc, MM.Q.dI_len, MM.Q.allD_dI, MM.Q.dI_nil, MM.Q.allD_dIs, MM.Q.frees_map, MM.Q.ev_cb, MM.Q.ev_cb1, MM.Q.ev_call, MM.Q.ev_call1, MM.Q.ev_call0, MM.Q.ev_callK, MM.Q.ev_callK1, MM.Q.ev_callK2, MM.Q.ldd_some, MM.Q.laid_nil, MM.Q.laid_k, MM.Q.laid_p, MM.Q.ixO_some, MM.Q.ev_ix, MM.Q.ev_ix1, MM.Q.ev_ix2, MM.Q.ix_list, MM.Q.ix_tup, MM.Q.refS_lst, MM.Q.refS_tup, MM.Q.seq_ref, MM.Q.seq_own, MM.Q.seq_list, MM.Q.seq_tup, MM.Q.ixK_some, MM.Q.ix_ref, MM.Q.ix_own, MM.Q.listO_f, MM.Q.ev_list, MM.Q.at0, MM.Q.at1, MM.Q.at2, MM.Q.at3, MM.Q.at4, MM.Q.ixN0, MM.Q.ixN1, MM.Q.ixN2, MM.Q.ev_oN, MM.Q.ev_oS, MM.Q.oS_int, MM.Q.ev_sl, MM.Q.ev_sl1, MM.Q.ev_sl2, MM.Q.ev_sl3, MM.Q.ev_rev, MM.Q.rev_list, MM.Q.ev_bm, MM.Q.ev_bm1, MM.Q.cBM_t, MM.Q.ev_bm2, MM.Q.buO_some, MM.Q.ev_bu, MM.Q.ev_bu1, MM.Q.cBU_t, MM.Q.ev_bu2, MM.Q.ty_str, MM.Q.tyO_some, MM.Q.ty_ref, MM.Q.ty_own, MM.Q.ty_list, MM.Q.beq_ll, MM.Q.beq_ss, MM.Q.celO_some, MM.Q.cell_ref, MM.Q.cell_own, MM.Q.ev_append, MM.Q.appO_some, MM.Q.ev_extend, MM.Q.extO_some, MM.Q.ev_pop, MM.Q.popO_snoc, MM.Q.ev_ind, MM.Q.ev_ind1, MM.Q.ev_neg, MM.Q.neg_int, MM.Q.ev_iter, MM.Q.ev_it, MM.Q.itO_some, MM.Q.items_list, MM.Q.items_tup, MM.Q.ev_rg1, MM.Q.rg1_int, MM.Q.ev_lc, MM.Q.ev_lc1, MM.Q.ev_lc2, MM.Q.wipe_nil, MM.Q.wipe_cons, MM.Q.ev_seq, MM.Q.seq_nx, MM.Q.seq_rt, MM.Q.seq_exc, MM.Q.seq_bk, MM.Q.seq_ct, MM.Q.ev_asg, MM.Q.ev_asg1, MM.Q.nxO_some, MM.Q.mg_name, MM.Q.mg_nil, MM.Q.mg_consN, MM.Q.mg_tup, MM.Q.ev_expr, MM.Q.ev_expr1, MM.Q.ev_ret, MM.Q.ev_ret1, MM.Q.ev_retN, MM.Q.ev_skip, MM.Q.ev_brk, MM.Q.ev_cnt, MM.Q.ev_if, MM.Q.if_t, MM.Q.if_f, MM.Q.ev_for, MM.Q.ev_for1, MM.Q.ev_fz, MM.Q.fz_own, MM.Q.fzC_some, MM.Q.fzO_some, MM.Q.fz_d, MM.Q.fz_ref, MM.Q.stO_some, MM.Q.ev_st, MM.Q.ev_st1, MM.Q.ev_st2, MM.Q.ev_st3, MM.Q.ev_setIx, MM.Q.siO_some, MM.Q.ev_par, MM.Q.ev_par1, MM.Q.nones_zero, MM.Q.nones_succ, MM.Q.begin_eq,  MM.Q.ev_fn, MM.Q.fin_rt, MM.Q.fin_ref, MM.Q.fin_nx, MM.Q.trim_same, MM.Q.trim_app, MM.Q.ev_len, MM.Q.ev_lst_l, MM.Q.ev_lst_t, MM.Q.ev_lst_r, MM.Q.ev_lst_o, MM.Q.ev_l1, MM.Q.ev_sum, MM.Q.ev_all, MM.Q.ev_any, MM.Q.ev_isi, MM.Q.kind_str, MM.Q.kind_int, MM.Q.kind_bool, MM.Q.kind_none, MM.Q.kind_dict, MM.Q.kind_list, MM.Q.kind_tup, MM.Q.kit_ss, MM.Q.kit_is, MM.Q.kit_bs, MM.Q.kit_ns, MM.Q.kit_ds, MM.Q.kit_ls, MM.Q.kit_ts, MM.Q.ev_repr, MM.Q.ev_join, MM.Q.lenO_some, MM.Q.len_list, MM.Q.len_tup, MM.Q.lnO_some, MM.Q.len_ref, MM.Q.len_own, MM.Q.lisO_some, MM.Q.l1O_some, MM.Q.ints_map, MM.Q.bools_map, MM.Q.strs_map, MM.Q.isiO_some, MM.Q.jnO_some, MM.Q.len_st, MM.Q.add_st, MM.Q.mul_st, MM.Q.ix_st, MM.Q.sl_st, MM.Q.rev_st, MM.Q.eqv_st, MM.Q.st_dec, MM.Q.divmod_int, MM.Q.items_st, MM.Q.allD_mapf, MM.Q.strs_mapf, MM.Q.ints_mapf, MM.Q.bools_mapf, MM.Q.join_ones_some, MM.Q.sl_own, MM.Q.sl_ref, MM.Q.sl_list, MM.Q.slO_some, MM.Q.add_own, MM.Q.add_ref, MM.Q.add_list, MM.Q.catO_some, MM.Q.cutL_map, MM.Q.mg_tupL, MM.Q.ev_ch, MM.Q.ev_ch1, MM.Q.ev_ch2, MM.Q.ch_t, MM.Q.ch_f, MM.Q.ev_ch3, MM.Q.starts_str, MM.Q.ends_str, MM.Q.upper_str, MM.Q.part_str, MM.Q.ev_fmt, MM.Q.ev_fmtR, MM.Q.fmt_st, MM.Q.fmt_int, MM.Q.ev_js_nil, MM.Q.ev_js_cons, MM.Q.ev_js1, MM.Q.ev_js2, MM.Q.jsF_some, MM.Q.js_st, MM.Q.ev_pr_nil, MM.Q.ev_pr_cons, MM.Q.ev_pr1, MM.Q.ev_pr2, MM.Q.ev_pr3, MM.Q.ev_dct, MM.Q.ev_dct1, MM.Q.keys_one, MM.Q.dctF_one, MM.Q.tup_list, MM.Q.tup_tup, MM.Q.tup_st, MM.Q.lst_st, MM.Q.mul_list, MM.Q.mul_tup, MM.Q.ev_popK, MM.Q.in_own, MM.Q.in_ref, MM.Q.in_list, MM.Q.inO_t, MM.Q.inO_f, MM.Q.b2i_t, MM.Q.b2i_f, MM.Q.int_int, MM.Q.int_bool, MM.Q.ev_rg2, MM.Q.rg2_int, MM.Q.ev_en, MM.Q.en_list, MM.Q.en_tup, MM.Q.en_st, MM.Q.ev_sortSc, MM.Q.ev_lenSc, MM.Q.ev_sc1, MM.Q.ev_scL1, MM.Q.ev_sc2, MM.Q.ev_scL2, 
  List.map_cons, List.map_nil, List.length_cons, List.length_nil, List.append_nil, List.nil_append, List.cons_append, List.getElem?_cons_zero, List.getElem?_cons_succ, List.set_cons_zero, List.set_cons_succ, Bool.and_true, Bool.true_and, Option.bind_some, Option.map_some, Nat.reduceAdd, Nat.reduceSub, Nat.add_sub_cancel, Nat.sub_self])
--- imports sig
/-! good texts -/
structure Gd (n : Nat) (l : List Nat) : Prop where
  len : l.length ≤ n
  all : ∀ c ∈ l, isG c = true
theorem Gd.mono {n m : Nat} {l : List Nat} (h : Gd n l) (e : n ≤ m) : Gd m l := ⟨Nat.le_trans h.len e, h.all⟩
theorem Gd.app {n m : Nat} {a b : List Nat} (h : Gd n a) (k : Gd m b) : Gd (n + m) (a ++ b) := ⟨by rw [List.length_append]; have := h.len; have := k.len; omega, fun c hc => (List.mem_append.mp hc).elim (h.all c) (k.all c)⟩
theorem Gd.cut {n : Nat} {a : List Nat} {lo hi : Option Int} (h : Gd n a) : Gd n (Q.cutL a lo hi) := ⟨Nat.le_trans Q.cutL_len h.len, fun c hc => h.all c (Q.cutL_mem hc)⟩
theorem Gd.rev {n : Nat} {a : List Nat} (h : Gd n a) : Gd n a.reverse := ⟨by rw [List.length_reverse]; exact h.len, fun c hc => h.all c (List.mem_reverse.mp hc)⟩
theorem Gd.rep {n k : Nat} {a : List Nat} (h : Gd n a) : Gd (k * n) (List.replicate k a).flatten := ⟨by rw [Q.rep_len]; exact Nat.mul_le_mul_left k h.len, fun c hc => by
  obtain ⟨l, hl, hc⟩ := List.mem_flatten.mp hc
  rw [(List.mem_replicate.mp hl).2] at hc
  exact h.all c hc⟩
theorem Gd.one {c : Nat} (h : isG c = true) : Gd 1 [c] := ⟨Nat.le_refl _, fun d hd => by rw [List.mem_singleton.mp hd]; exact h⟩
theorem Gd.nil : Gd 0 [] := ⟨Nat.le_refl _, fun d hd => by cases hd⟩
theorem Gd.of {l : List Nat} (h : l.all isG = true) : Gd l.length l := ⟨Nat.le_refl _, List.all_eq_true.mp h⟩
theorem Gd.ok {n : Nat} {l : List Nat} (h : Gd n l) : ∀ c ∈ l, c < 0x110000 := fun c hc => isG_ok (h.all c hc)
theorem Gd.shaped {n : Nat} {l : List Nat} (h : Gd n l) : SeqAt.shaped (.str (Q.st l)) = true := Q.ok_st h.ok
theorem Gd.upper {n : Nat} {l : List Nat} (h : Gd n l) : Txt.upper (Q.st l) = Q.st (l.map PyProof.Rows.up1) := Q.upper_st fun c hc => by have := isG_lt (h.all c hc); omega
theorem up_good {c : Nat} (h : isG c = true) : isG (PyProof.Rows.up1 c) = true := by
  have : ∀ c < 127, isG c = true → isG (PyProof.Rows.up1 c) = true := by decide +kernel
  exact this c (isG_lt h) h
theorem Gd.up {n : Nat} {l : List Nat} (h : Gd n l) : Gd n (l.map PyProof.Rows.up1) := ⟨by rw [List.length_map]; exact h.len, fun c hc => by
  obtain ⟨d, hd, rfl⟩ := List.mem_map.mp hc
  exact up_good (h.all d hd)⟩
theorem word_good {l : List Nat} (h : wordB l = true) : Gd 8 l := by
  unfold wordB at h
  simp only [Bool.and_eq_true, decide_eq_true_eq, List.all_eq_true] at h
  exact ⟨h.2.1, fun c hc => lets_good (h.2.2 c hc)⟩
theorem mark_good {l : List Nat} (h : markB l = true) : Gd 8 l := by
  unfold markB at h
  simp only [Bool.and_eq_true, decide_eq_true_eq, List.all_eq_true] at h
  exact ⟨Nat.le_of_eq h.1, fun c hc => fgs_good (h.2 c hc)⟩
theorem Gd.gup {n : Nat} {l : List Nat} {S : Sg} (h : Gd n l) (hn : n ≤ 1000000) : gUpper S (.d (.str (Q.st l))) [] = some (.val (.d (.str (Q.st (l.map PyProof.Rows.up1))))) := by
  rw [Q.upper_str (by rw [Q.st_len]; have := h.len; omega), h.upper]

end Law
end
section
set_option Elab.async false
set_option linter.all false
set_option maxRecDepth 100000
set_option maxHeartbeats 4000000
set_option autoImplicit false
namespace Law
open PySem PySem.Spec PyProof.Rows L2 MM
local macro_rules | `(tactic| walk_at "mm") => `(tactic| simp (disch := first | assumption | omega | exact MM.Q.shaped_int | exact MM.Q.shaped_nil | exact MM.Q.shaped_ints | exact MM.Q.shaped_bool | (refine of_eq_true (eq_true ?_); first | with_unfolding_all rfl | (simp only [MM.Q.free_d, MM.Q.free_ref, MM.Q.free_adr, MM.Q.frees_nil, MM.Q.frees_cons, MM.Q.frees_map, Bool.and_true, Bool.true_and]; done)) | (simp only [List.length_cons, List.length_nil, List.append_nil, List.map_cons, List.map_nil, List.length_append, List.length_map, List.length_reverse, MM.Q.dI_len, PySem.sizeLine_eq]; omega)) only [MM.Q.bind_ok, MM.Q.bind_exc, MM.Q.go_ok, MM.Q.go_exc, MM.Q.nox_ok, MM.Q.vr_some, MM.Q.ev_var, MM.Q.ev_c, MM.Q.ev_k, MM.Q.frzO_some, MM.Q.tupO_some, MM.Q.tupO_none, MM.Q.bear_val, MM.Q.bear_frz, MM.Q.bear_ref, MM.Q.bear_own, MM.Q.bear_tup, MM.Q.allD_nil, MM.Q.allD_cons, MM.Q.allD_map, MM.Q.bearO_some, MM.Q.ev_bin, MM.Q.ev_bin1, MM.Q.ev_bin2, MM.Q.add_int, MM.Q.sub_int, MM.Q.mul_int, MM.Q.mod_int, MM.Q.fdiv_int, MM.Q.pow_int, MM.Q.intB_int, MM.Q.datO_f, MM.Q.datO_t, MM.Q.data_d, MM.Q.data_ref, MM.Q.data_own, MM.Q.ev_eq_r, MM.Q.ev_eq_o, MM.Q.ev_eq_l, MM.Q.ev_eq_t, MM.Q.ev_eq_i, MM.Q.ev_eq_b, MM.Q.ev_eq_n, MM.Q.ev_eq_st, MM.Q.ev_eq_sf, MM.Q.eqO_some, MM.Q.eqC_t, MM.Q.eqC_f, MM.Q.eqv_nil, MM.Q.eqv_int, MM.Q.eqv_bool, MM.Q.in_str, MM.Q.notIn_str, MM.Q.is_bool, MM.Q.isnot_bool, MM.Q.tst_bool, MM.Q.ev_tst, MM.Q.ev_truth, MM.Q.ev_tru, MM.Q.truO_some, MM.Q.truth_bool, MM.Q.truth_int, MM.Q.truth_none, MM.Q.truth_list, MM.Q.truth_tup, MM.Q.ev_andB, MM.Q.ev_orB, MM.Q.ev_notB, MM.Q.andB_t, MM.Q.andB_f, MM.Q.orB_t, MM.Q.orB_f, MM.Q.ev_notB1, MM.Q.ev_and, MM.Q.ev_or, MM.Q.and_tB, MM.Q.and_fB, MM.Q.or_tB, MM.Q.or_fB, MM.Q.ev_not, MM.Q.ev_not1, MM.Q.notO_some, MM.Q.ev_ifE, MM.Q.ifE_t, MM.Q.ifE_f, MM.Q.ev_nil, MM.Q.ev_cons, MM.Q.ev_cons1, MM.Q.ev_cons2, MM.Q.ev_disp, MM.Q.disp_lst, MM.Q.disp_tup, MM.Q.frees_nil, MM.Q.frees_cons, MM.Q.free_d, MM.Q.free_ref, MM.Q.free_adr, MM.Q.dI_snoc, MM.Q.dI_len, MM.Q.allD_dI, MM.Q.dI_nil, MM.Q.allD_dIs, MM.Q.frees_map, MM.Q.ev_cb, MM.Q.ev_cb1, MM.Q.ev_call, MM.Q.ev_call1, MM.Q.ev_call0, MM.Q.ev_callK, MM.Q.ev_callK1, MM.Q.ev_callK2, MM.Q.ldd_some, MM.Q.laid_nil, MM.Q.laid_k, MM.Q.laid_p, MM.Q.ixO_some, MM.Q.ev_ix, MM.Q.ev_ix1, MM.Q.ev_ix2, MM.Q.ix_list, MM.Q.ix_tup, MM.Q.refS_lst, MM.Q.refS_tup, MM.Q.seq_ref, MM.Q.seq_own, MM.Q.seq_list, MM.Q.seq_tup, MM.Q.ixK_some, MM.Q.ix_ref, MM.Q.ix_own, MM.Q.listO_f, MM.Q.ev_list, MM.Q.at0, MM.Q.at1, MM.Q.at2, MM.Q.at3, MM.Q.at4, MM.Q.ixN0, MM.Q.ixN1, MM.Q.ixN2, MM.Q.ev_oN, MM.Q.ev_oS, MM.Q.oS_int, MM.Q.ev_sl, MM.Q.ev_sl1, MM.Q.ev_sl2, MM.Q.ev_sl3, MM.Q.ev_rev, MM.Q.rev_list, MM.Q.ev_bm, MM.Q.ev_bm1, MM.Q.cBM_t, MM.Q.ev_bm2, MM.Q.buO_some, MM.Q.ev_bu, MM.Q.ev_bu1, MM.Q.cBU_t, MM.Q.ev_bu2, MM.Q.ty_str, MM.Q.tyO_some, MM.Q.ty_ref, MM.Q.ty_own, MM.Q.ty_list, MM.Q.beq_ll, MM.Q.beq_ss, MM.Q.celO_some, MM.Q.cell_ref, MM.Q.cell_own, MM.Q.ev_append, MM.Q.appO_some, MM.Q.ev_extend, MM.Q.extO_some, MM.Q.ev_pop, MM.Q.popO_snoc, MM.Q.ev_ind, MM.Q.ev_ind1, MM.Q.ev_neg, MM.Q.neg_int, MM.Q.ev_iter, MM.Q.ev_it, MM.Q.itO_some, MM.Q.items_list, MM.Q.items_tup, MM.Q.ev_rg1, MM.Q.rg1_int, MM.Q.ev_lc, MM.Q.ev_lc1, MM.Q.ev_lc2, MM.Q.wipe_nil, MM.Q.wipe_cons, MM.Q.ev_seq, MM.Q.seq_nx, MM.Q.seq_rt, MM.Q.seq_exc, MM.Q.seq_bk, MM.Q.seq_ct, MM.Q.ev_asg, MM.Q.ev_asg1, MM.Q.nxO_some, MM.Q.mg_name, MM.Q.mg_nil, MM.Q.mg_consN, MM.Q.mg_tup, MM.Q.ev_expr, MM.Q.ev_expr1, MM.Q.ev_ret, MM.Q.ev_ret1, MM.Q.ev_retN, MM.Q.ev_skip, MM.Q.ev_brk, MM.Q.ev_cnt, MM.Q.ev_if, MM.Q.if_t, MM.Q.if_f, MM.Q.ev_for, MM.Q.ev_for1, MM.Q.ev_fz, MM.Q.fz_own, MM.Q.fzC_some, MM.Q.fzO_some, MM.Q.fz_d, MM.Q.fz_ref, MM.Q.stO_some, MM.Q.ev_st, MM.Q.ev_st1, MM.Q.ev_st2, MM.Q.ev_st3, MM.Q.ev_setIx, MM.Q.siO_some, MM.Q.ev_par, MM.Q.ev_par1, MM.Q.nones_zero, MM.Q.nones_succ, MM.Q.begin_eq, draw_int, dS_len, dS_app, dS_get, dS_set, sg_app, sg_app2, ag0, ag1, ag2, ag3, as0, as1, as2, as3, al1, al2, al3, dS_trim, dS_trim0, dS_trimc, Int.reduceToNat, Int.toNat_natCast, List.length_map,  MM.Q.ev_fn, MM.Q.fin_rt, MM.Q.fin_ref, MM.Q.fin_nx, MM.Q.trim_same, MM.Q.trim_app, MM.Q.ev_len, MM.Q.ev_lst_l, MM.Q.ev_lst_t, MM.Q.ev_lst_r, MM.Q.ev_lst_o, MM.Q.ev_l1, MM.Q.ev_sum, MM.Q.ev_all, MM.Q.ev_any, MM.Q.ev_isi, MM.Q.kind_str, MM.Q.kind_int, MM.Q.kind_bool, MM.Q.kind_none, MM.Q.kind_dict, MM.Q.kind_list, MM.Q.kind_tup, MM.Q.kit_ss, MM.Q.kit_is, MM.Q.kit_bs, MM.Q.kit_ns, MM.Q.kit_ds, MM.Q.kit_ls, MM.Q.kit_ts, MM.Q.ev_repr, MM.Q.ev_join, MM.Q.lenO_some, MM.Q.len_list, MM.Q.len_tup, MM.Q.lnO_some, MM.Q.len_ref, MM.Q.len_own, MM.Q.lisO_some, MM.Q.l1O_some, MM.Q.ints_map, MM.Q.bools_map, MM.Q.strs_map, MM.Q.isiO_some, MM.Q.jnO_some, MM.Q.len_st, MM.Q.add_st, MM.Q.mul_st, MM.Q.ix_st, MM.Q.sl_st, MM.Q.rev_st, MM.Q.eqv_st, MM.Q.st_dec, MM.Q.divmod_int, MM.Q.items_st, MM.Q.allD_mapf, MM.Q.strs_mapf, MM.Q.ints_mapf, MM.Q.bools_mapf, MM.Q.join_ones_some, MM.Q.sl_own, MM.Q.sl_ref, MM.Q.sl_list, MM.Q.slO_some, MM.Q.add_own, MM.Q.add_ref, MM.Q.add_list, MM.Q.catO_some, MM.Q.cutL_map, MM.Q.mg_tupL, MM.Q.ev_ch, MM.Q.ev_ch1, MM.Q.ev_ch2, MM.Q.ch_t, MM.Q.ch_f, MM.Q.ev_ch3, MM.Q.starts_str, MM.Q.ends_str, MM.Q.upper_str, MM.Q.part_str, MM.Q.ev_fmt, MM.Q.ev_fmtR, MM.Q.fmt_st, MM.Q.fmt_int, MM.Q.ev_js_nil, MM.Q.ev_js_cons, MM.Q.ev_js1, MM.Q.ev_js2, MM.Q.jsF_some, MM.Q.js_st, MM.Q.ev_pr_nil, MM.Q.ev_pr_cons, MM.Q.ev_pr1, MM.Q.ev_pr2, MM.Q.ev_pr3, MM.Q.ev_dct, MM.Q.ev_dct1, MM.Q.keys_one, MM.Q.dctF_one, MM.Q.tup_list, MM.Q.tup_tup, MM.Q.tup_st, MM.Q.lst_st, MM.Q.mul_list, MM.Q.mul_tup, MM.Q.ev_popK, MM.Q.in_own, MM.Q.in_ref, MM.Q.in_list, MM.Q.inO_t, MM.Q.inO_f, MM.Q.b2i_t, MM.Q.b2i_f, MM.Q.int_int, MM.Q.int_bool, MM.Q.ev_rg2, MM.Q.rg2_int, MM.Q.ev_en, MM.Q.en_list, MM.Q.en_tup, MM.Q.en_st, MM.Q.ev_sortSc, MM.Q.ev_lenSc, MM.Q.ev_sc1, MM.Q.ev_scL1, MM.Q.ev_sc2, MM.Q.ev_scL2, 
  List.map_cons, List.map_nil, List.length_cons, List.length_nil, List.append_nil, List.nil_append, List.cons_append, List.getElem?_cons_zero, List.getElem?_cons_succ, List.set_cons_zero, List.set_cons_succ, Bool.and_true, Bool.true_and, Option.bind_some, Option.map_some, Nat.reduceAdd, Nat.reduceSub, Nat.add_sub_cancel, Nat.sub_self])
--- imports deck good
def mulA : ME := mBin .frz gMul (mC (.str ("a" : Str))) (mCall 2 f_L_draw [] (mCons (mVar 0) (mCons (mC (.int 9)) (mNil))))
theorem mul_draw9 {D : Dk} {T : Sg} {o1 o2 o3 o4 o5 o6 : Option Mv} : mulA [some (.ref 1), o1, o2, o3, o4, o5, o6] (dS D T) = .ok (mS (List.replicate (dr D 9).val [97]).flatten) (dS (nx D 9) T) := by
  have h16 : sizeLine = 16777216 := PySem.sizeLine_eq
  have hn : (dr D 9).val < 9 := by have := (dr D 9).isLt; omega
  have e : mCall 2 f_L_draw [] (mCons (mVar 0) (mCons (mC (.int 9)) (mNil))) [some (.ref 1), o1, o2, o3, o4, o5, o6] (dS D T) = .ok (.d (.int ((dr D 9).val : Nat))) (dS (nx D 9) T) := by
    walk_at "mm"
  have e1 : mC (.str ("a" : Str)) [some (.ref 1), o1, o2, o3, o4, o5, o6] (dS D T) = .ok (.d (.str (Q.st [97]))) (dS D T) := by
    rw [show Str.ofString "a" = Q.st [97] by decide +kernel]; rfl
  have ok : ∀ {α β : Type} (x : α) S (f : α → Sg → Res β), Res.bind (.ok x S) f = f x S := fun _ _ _ => rfl
  unfold mulA
  rw [Q.ev_bin, e1, ok, Q.ev_bin1, e, ok, Q.ev_bin2, Q.mul_st ⟨by omega, by omega, by rw [Int.toNat_natCast]; simp only [List.length_cons, List.length_nil]; omega⟩, Int.toNat_natCast]
  rfl

end Law
end
section
set_option Elab.async false
set_option linter.all false
set_option maxRecDepth 100000
set_option maxHeartbeats 4000000
set_option autoImplicit false
namespace Law
open PySem PySem.Spec PyProof.Rows L2 MM
local macro_rules | `(tactic| walk_at "mm") => `(tactic| simp (disch := first | assumption | omega | exact MM.Q.shaped_int | exact MM.Q.shaped_nil | exact MM.Q.shaped_ints | exact MM.Q.shaped_bool | (refine of_eq_true (eq_true ?_); first | with_unfolding_all rfl | (simp only [MM.Q.free_d, MM.Q.free_ref, MM.Q.free_adr, MM.Q.frees_nil, MM.Q.frees_cons, MM.Q.frees_map, Bool.and_true, Bool.true_and]; done)) | (simp only [List.length_cons, List.length_nil, List.append_nil, List.map_cons, List.map_nil, List.length_append, List.length_map, List.length_reverse, MM.Q.dI_len, PySem.sizeLine_eq]; omega)) only [MM.Q.bind_ok, MM.Q.bind_exc, MM.Q.go_ok, MM.Q.go_exc, MM.Q.nox_ok, MM.Q.vr_some, MM.Q.ev_var, MM.Q.ev_c, MM.Q.ev_k, MM.Q.frzO_some, MM.Q.tupO_some, MM.Q.tupO_none, MM.Q.bear_val, MM.Q.bear_frz, MM.Q.bear_ref, MM.Q.bear_own, MM.Q.bear_tup, MM.Q.allD_nil, MM.Q.allD_cons, MM.Q.allD_map, MM.Q.bearO_some, MM.Q.ev_bin, MM.Q.ev_bin1, MM.Q.ev_bin2, MM.Q.add_int, MM.Q.sub_int, MM.Q.mul_int, MM.Q.mod_int, MM.Q.fdiv_int, MM.Q.pow_int, MM.Q.intB_int, MM.Q.datO_f, MM.Q.datO_t, MM.Q.data_d, MM.Q.data_ref, MM.Q.data_own, MM.Q.ev_eq_r, MM.Q.ev_eq_o, MM.Q.ev_eq_l, MM.Q.ev_eq_t, MM.Q.ev_eq_i, MM.Q.ev_eq_b, MM.Q.ev_eq_n, MM.Q.ev_eq_st, MM.Q.ev_eq_sf, MM.Q.eqO_some, MM.Q.eqC_t, MM.Q.eqC_f, MM.Q.eqv_nil, MM.Q.eqv_int, MM.Q.eqv_bool, MM.Q.in_str, MM.Q.notIn_str, MM.Q.is_bool, MM.Q.isnot_bool, MM.Q.tst_bool, MM.Q.ev_tst, MM.Q.ev_truth, MM.Q.ev_tru, MM.Q.truO_some, MM.Q.truth_bool, MM.Q.truth_int, MM.Q.truth_none, MM.Q.truth_list, MM.Q.truth_tup, MM.Q.ev_andB, MM.Q.ev_orB, MM.Q.ev_notB, MM.Q.andB_t, MM.Q.andB_f, MM.Q.orB_t, MM.Q.orB_f, MM.Q.ev_notB1, MM.Q.ev_and, MM.Q.ev_or, MM.Q.and_tB, MM.Q.and_fB, MM.Q.or_tB, MM.Q.or_fB, MM.Q.ev_not, MM.Q.ev_not1, MM.Q.notO_some, MM.Q.ev_ifE, MM.Q.ifE_t, MM.Q.ifE_f, MM.Q.ev_nil, MM.Q.ev_cons, MM.Q.ev_cons1, MM.Q.ev_cons2, MM.Q.ev_disp, MM.Q.disp_lst, MM.Q.disp_tup, MM.Q.frees_nil, MM.Q.frees_cons, MM.Q.free_d, MM.Q.free_ref, MM.Q.free_adr, MM.Q.dI_snoc, MM.Q.dI_len, MM.Q.allD_dI, MM.Q.dI_nil, MM.Q.allD_dIs, MM.Q.frees_map, MM.Q.ev_cb, MM.Q.ev_cb1, MM.Q.ev_call, MM.Q.ev_call1, MM.Q.ev_call0, MM.Q.ev_callK, MM.Q.ev_callK1, MM.Q.ev_callK2, MM.Q.ldd_some, MM.Q.laid_nil, MM.Q.laid_k, MM.Q.laid_p, MM.Q.ixO_some, MM.Q.ev_ix, MM.Q.ev_ix1, MM.Q.ev_ix2, MM.Q.ix_list, MM.Q.ix_tup, MM.Q.refS_lst, MM.Q.refS_tup, MM.Q.seq_ref, MM.Q.seq_own, MM.Q.seq_list, MM.Q.seq_tup, MM.Q.ixK_some, MM.Q.ix_ref, MM.Q.ix_own, MM.Q.listO_f, MM.Q.ev_list, MM.Q.at0, MM.Q.at1, MM.Q.at2, MM.Q.at3, MM.Q.at4, MM.Q.ixN0, MM.Q.ixN1, MM.Q.ixN2, MM.Q.ev_oN, MM.Q.ev_oS, MM.Q.oS_int, MM.Q.ev_sl, MM.Q.ev_sl1, MM.Q.ev_sl2, MM.Q.ev_sl3, MM.Q.ev_rev, MM.Q.rev_list, MM.Q.ev_bm, MM.Q.ev_bm1, MM.Q.cBM_t, MM.Q.ev_bm2, MM.Q.buO_some, MM.Q.ev_bu, MM.Q.ev_bu1, MM.Q.cBU_t, MM.Q.ev_bu2, MM.Q.ty_str, MM.Q.tyO_some, MM.Q.ty_ref, MM.Q.ty_own, MM.Q.ty_list, MM.Q.beq_ll, MM.Q.beq_ss, MM.Q.celO_some, MM.Q.cell_ref, MM.Q.cell_own, MM.Q.ev_append, MM.Q.appO_some, MM.Q.ev_extend, MM.Q.extO_some, MM.Q.ev_pop, MM.Q.popO_snoc, MM.Q.ev_ind, MM.Q.ev_ind1, MM.Q.ev_neg, MM.Q.neg_int, MM.Q.ev_iter, MM.Q.ev_it, MM.Q.itO_some, MM.Q.items_list, MM.Q.items_tup, MM.Q.ev_rg1, MM.Q.rg1_int, MM.Q.ev_lc, MM.Q.ev_lc1, MM.Q.ev_lc2, MM.Q.wipe_nil, MM.Q.wipe_cons, MM.Q.ev_seq, MM.Q.seq_nx, MM.Q.seq_rt, MM.Q.seq_exc, MM.Q.seq_bk, MM.Q.seq_ct, MM.Q.ev_asg, MM.Q.ev_asg1, MM.Q.nxO_some, MM.Q.mg_name, MM.Q.mg_nil, MM.Q.mg_consN, MM.Q.mg_tup, MM.Q.ev_expr, MM.Q.ev_expr1, MM.Q.ev_ret, MM.Q.ev_ret1, MM.Q.ev_retN, MM.Q.ev_skip, MM.Q.ev_brk, MM.Q.ev_cnt, MM.Q.ev_if, MM.Q.if_t, MM.Q.if_f, MM.Q.ev_for, MM.Q.ev_for1, MM.Q.ev_fz, MM.Q.fz_own, MM.Q.fzC_some, MM.Q.fzO_some, MM.Q.fz_d, MM.Q.fz_ref, MM.Q.stO_some, MM.Q.ev_st, MM.Q.ev_st1, MM.Q.ev_st2, MM.Q.ev_st3, MM.Q.ev_setIx, MM.Q.siO_some, MM.Q.ev_par, MM.Q.ev_par1, MM.Q.nones_zero, MM.Q.nones_succ, MM.Q.begin_eq, draw_int, dS_len, dS_app, dS_get, dS_set, sg_app, sg_app2, ag0, ag1, ag2, ag3, as0, as1, as2, as3, al1, al2, al3, dS_trim, dS_trim0, dS_trimc, Int.reduceToNat, Int.toNat_natCast, List.length_map,  MM.Q.ev_fn, MM.Q.fin_rt, MM.Q.fin_ref, MM.Q.fin_nx, MM.Q.trim_same, MM.Q.trim_app, MM.Q.ev_len, MM.Q.ev_lst_l, MM.Q.ev_lst_t, MM.Q.ev_lst_r, MM.Q.ev_lst_o, MM.Q.ev_l1, MM.Q.ev_sum, MM.Q.ev_all, MM.Q.ev_any, MM.Q.ev_isi, MM.Q.kind_str, MM.Q.kind_int, MM.Q.kind_bool, MM.Q.kind_none, MM.Q.kind_dict, MM.Q.kind_list, MM.Q.kind_tup, MM.Q.kit_ss, MM.Q.kit_is, MM.Q.kit_bs, MM.Q.kit_ns, MM.Q.kit_ds, MM.Q.kit_ls, MM.Q.kit_ts, MM.Q.ev_repr, MM.Q.ev_join, MM.Q.lenO_some, MM.Q.len_list, MM.Q.len_tup, MM.Q.lnO_some, MM.Q.len_ref, MM.Q.len_own, MM.Q.lisO_some, MM.Q.l1O_some, MM.Q.ints_map, MM.Q.bools_map, MM.Q.strs_map, MM.Q.isiO_some, MM.Q.jnO_some, MM.Q.len_st, MM.Q.add_st, MM.Q.mul_st, MM.Q.ix_st, MM.Q.sl_st, MM.Q.rev_st, MM.Q.eqv_st, MM.Q.st_dec, MM.Q.divmod_int, MM.Q.items_st, MM.Q.allD_mapf, MM.Q.strs_mapf, MM.Q.ints_mapf, MM.Q.bools_mapf, MM.Q.join_ones_some, MM.Q.sl_own, MM.Q.sl_ref, MM.Q.sl_list, MM.Q.slO_some, MM.Q.add_own, MM.Q.add_ref, MM.Q.add_list, MM.Q.catO_some, MM.Q.cutL_map, MM.Q.mg_tupL, MM.Q.ev_ch, MM.Q.ev_ch1, MM.Q.ev_ch2, MM.Q.ch_t, MM.Q.ch_f, MM.Q.ev_ch3, MM.Q.starts_str, MM.Q.ends_str, MM.Q.upper_str, MM.Q.part_str, MM.Q.ev_fmt, MM.Q.ev_fmtR, MM.Q.fmt_st, MM.Q.fmt_int, MM.Q.ev_js_nil, MM.Q.ev_js_cons, MM.Q.ev_js1, MM.Q.ev_js2, MM.Q.jsF_some, MM.Q.js_st, MM.Q.ev_pr_nil, MM.Q.ev_pr_cons, MM.Q.ev_pr1, MM.Q.ev_pr2, MM.Q.ev_pr3, MM.Q.ev_dct, MM.Q.ev_dct1, MM.Q.keys_one, MM.Q.dctF_one, MM.Q.tup_list, MM.Q.tup_tup, MM.Q.tup_st, MM.Q.lst_st, MM.Q.mul_list, MM.Q.mul_tup, MM.Q.ev_popK, MM.Q.in_own, MM.Q.in_ref, MM.Q.in_list, MM.Q.inO_t, MM.Q.inO_f, MM.Q.b2i_t, MM.Q.b2i_f, MM.Q.int_int, MM.Q.int_bool, MM.Q.ev_rg2, MM.Q.rg2_int, MM.Q.ev_en, MM.Q.en_list, MM.Q.en_tup, MM.Q.en_st, MM.Q.ev_sortSc, MM.Q.ev_lenSc, MM.Q.ev_sc1, MM.Q.ev_scL1, MM.Q.ev_sc2, MM.Q.ev_scL2, 
  List.map_cons, List.map_nil, List.length_cons, List.length_nil, List.append_nil, List.nil_append, List.cons_append, List.getElem?_cons_zero, List.getElem?_cons_succ, List.set_cons_zero, List.set_cons_succ, Bool.and_true, Bool.true_and, Option.bind_some, Option.map_some, Nat.reduceAdd, Nat.reduceSub, Nat.add_sub_cancel, Nat.sub_self])
--- imports pick good k03mul
theorem at10 {i : Int} (h : 0 ≤ i) (h2 : i < 10) : ∃ d, atI [35, 59, 45, 48, 97, 101, 90, 32, 10, 126] i = some d ∧ isG d = true := by
  obtain ⟨d, hd, e⟩ := Q.atI_mem (xs := [35, 59, 45, 48, 97, 101, 90, 32, 10, 126]) h (by simpa using h2)
  have : ∀ d ∈ [35, 59, 45, 48, 97, 101, 90, 32, 10, 126], isG d = true := by decide
  exact ⟨d, e, this d hd⟩
theorem spec_L_piece {L : List (List Nat)} (h0 : 0 < L.length) (h1 : L.length ≤ 1000) (hL : ∀ l ∈ L, Gd 19 l ∧ 1 ≤ l.length) (D : Dk) (T : Sg) : ∃ (m : List Nat) (E : Dk), f_L_piece [.ref 1, .d (.list (L.map pS))] (dS D T) = .ok (mS m) (dS E T) ∧ Gd 20 m := by
  have h16 : sizeLine = 16777216 := PySem.sizeLine_eq
  obtain ⟨z, D1, e1, hz⟩ := spec_L_pick (xs := L.map pS) (by rw [List.length_map]; omega) (by rw [List.length_map]; omega) (nx D 9) T
  obtain ⟨l, hl, rfl⟩ := List.mem_map.mp hz
  obtain ⟨gl, hl1⟩ := hL l hl
  have ll := gl.len
  obtain ⟨d, ed, hd⟩ := at10 (i := (dr (nx D1 l.length) 10).val) (by omega) (by omega)
  have hk : (dr D1 l.length).val < l.length := by omega
  generalize hat : (dr D1 l.length).val = k at hk
  have c1 : Q.cutL l none (some (k : Int)) = l.take k := Q.cutL_to
  have c2 : Q.cutL l (some ((k : Int) + 1)) none = l.drop (k + 1) := by
    rw [show ((k : Int) + 1) = ((k + 1 : Nat) : Int) by omega]; exact Q.cutL_from
  have c3 : Q.cutL l (some (k : Int)) none = l.drop k := Q.cutL_from
  obtain ⟨z, hz, c1, c2, c3⟩ : ∃ z : Int, (k : Int) = z ∧ Q.cutL l none (some z) = l.take k ∧ Q.cutL l (some (z + 1)) none = l.drop (k + 1) ∧ Q.cutL l (some z) none = l.drop k := ⟨k, rfl, c1, c2, c3⟩
  have l1 : (l.take k).length = k := by rw [List.length_take]; omega
  have l2 : (l.drop (k + 1)).length = l.length - (k + 1) := by rw [List.length_drop]
  have l3 : (l.drop k).length = l.length - k := by rw [List.length_drop]
  have m1 : ∀ c ∈ l.take k, isG c = true := fun c hc => gl.all c (List.mem_of_mem_take hc)
  have m2 : ∀ c ∈ l.drop (k + 1), isG c = true := fun c hc => gl.all c (List.mem_of_mem_drop hc)
  have m3 : ∀ c ∈ l.drop k, isG c = true := fun c hc => gl.all c (List.mem_of_mem_drop hc)
  have hn : (dr (nx (nx D1 l.length) 10) 9).val < 9 := by have := (dr (nx (nx D1 l.length) 10) 9).isLt; omega
  generalize hnn : (dr (nx (nx D1 l.length) 10) 9).val = n at hn
  have hw : (dr D 9).val < 9 := by have := (dr D 9).isLt; omega
  have mm : -(2 ^ 63) ≤ (n : Int) ∧ (n : Int) < 2 ^ 63 ∧ (n : Int).toNat * [97].length ≤ sizeLine := ⟨by omega, by omega, by simp; omega⟩
  suffices h : ∃ m, atI ([mS l, mS l, mS l, mS (l.take k ++ l.drop (k + 1)), mS (l.take k ++ [d] ++ l.drop k), mS (l.take k ++ [d] ++ l.drop (k + 1)), mS [d], mS (List.replicate n [97]).flatten, mS (l.take k)]) (((dr D 9).val : Nat) : Int) = some (mS m) ∧ Gd 20 m by
    obtain ⟨m, e, hm⟩ := h
    refine ⟨m, nx (nx (nx D1 l.length) 10) 9, ?_, hm⟩
    unfold f_L_piece m_L_piece
    rw [show mBin .frz gMul (mC (.str ("a" : Str))) (mCall 2 f_L_draw [] (mCons (mVar 0) (mCons (mC (.int 9)) (mNil)))) = mulA from rfl]
    walk_at "mm"
    rw [e1]
    walk_at "mm"
    rw [hat, hz, show Str.ofString "#;-0aeZ \n~" = Q.st [35, 59, 45, 48, 97, 101, 90, 32, 10, 126] by decide +kernel]
    walk_at "mm"
    rw [ed]
    walk_at "mm"
    have q1 : (Q.cutL l none (some z)).length ≤ 19 := by rw [c1]; omega
    have q2 : (Q.cutL l (some (z + 1)) none).length ≤ 19 := by rw [c2]; omega
    have q4 : (Q.cutL l none (some z) ++ [d]).length ≤ 20 := by rw [c1, List.length_append, List.length_singleton]; omega
    have q3 : (Q.cutL l (some z) none).length ≤ 19 := by rw [c3]; omega
    walk_at "mm"
    rw [mul_draw9]
    walk_at "mm"
    simp only [c1, c2, c3, hnn]
    rw [e]
    walk_at "mm"
  obtain ⟨y, hy, e⟩ := Q.atI_mem (xs := [mS l, mS l, mS l, mS (l.take k ++ l.drop (k + 1)), mS (l.take k ++ [d] ++ l.drop k), mS (l.take k ++ [d] ++ l.drop (k + 1)), mS [d], mS (List.replicate n [97]).flatten, mS (l.take k)]) (i := (((dr D 9).val : Nat) : Int)) (by omega) (by simp only [List.length_cons, List.length_nil]; omega)
  have fin : ∀ m : List Nat, m.length ≤ 20 → (∀ c ∈ m, isG c = true) → y = mS m → ∃ m, atI ([mS l, mS l, mS l, mS (l.take k ++ l.drop (k + 1)), mS (l.take k ++ [d] ++ l.drop k), mS (l.take k ++ [d] ++ l.drop (k + 1)), mS [d], mS (List.replicate n [97]).flatten, mS (l.take k)]) (((dr D 9).val : Nat) : Int) = some (mS m) ∧ Gd 20 m := fun m h1 h2 h3 => ⟨m, by rw [e, h3], h1, h2⟩
  simp only [List.mem_cons, List.not_mem_nil, or_false] at hy
  rcases hy with h | h | h | h | h | h | h | h | h
  · exact fin _ (by omega) gl.all h
  · exact fin _ (by omega) gl.all h
  · exact fin _ (by omega) gl.all h
  · exact fin _ (by rw [List.length_append]; omega) (fun c hc => (List.mem_append.mp hc).elim (m1 c) (m2 c)) h
  · refine fin _ (by simp only [List.length_append, List.length_singleton]; omega) (fun c hc => ?_) h
    simp only [List.mem_append, List.mem_singleton] at hc
    rcases hc with (hc | rfl) | hc
    · exact m1 c hc
    · exact hd
    · exact m3 c hc
  · refine fin _ (by simp only [List.length_append, List.length_singleton]; omega) (fun c hc => ?_) h
    simp only [List.mem_append, List.mem_singleton] at hc
    rcases hc with (hc | rfl) | hc
    · exact m1 c hc
    · exact hd
    · exact m2 c hc
  · exact fin _ (by simp) (fun c hc => by rw [List.mem_singleton.mp hc]; exact hd) h
  · have := (Gd.one (c := 97) (by decide)).rep (k := n)
    exact fin _ (by have := this.len; omega) this.all h
  · exact fin _ (by omega) m1 h

end Law
end
section
set_option Elab.async false
set_option linter.all false
set_option maxRecDepth 100000
set_option maxHeartbeats 4000000
set_option autoImplicit false
namespace Law
open PySem PySem.Spec PyProof.Rows L2 MM
local macro_rules | `(tactic| walk_at "mm") => `(tactic| simp (disch := first | assumption | omega | exact MM.Q.shaped_int | exact MM.Q.shaped_nil | exact MM.Q.shaped_ints | exact MM.Q.shaped_bool | (refine of_eq_true (eq_true ?_); first | with_unfolding_all rfl | (simp only [MM.Q.free_d, MM.Q.free_ref, MM.Q.free_adr, MM.Q.frees_nil, MM.Q.frees_cons, MM.Q.frees_map, Bool.and_true, Bool.true_and]; done)) | (simp only [List.length_cons, List.length_nil, List.append_nil, List.map_cons, List.map_nil, List.length_append, List.length_map, List.length_reverse, MM.Q.dI_len, PySem.sizeLine_eq]; omega)) only [MM.Q.bind_ok, MM.Q.bind_exc, MM.Q.go_ok, MM.Q.go_exc, MM.Q.nox_ok, MM.Q.vr_some, MM.Q.ev_var, MM.Q.ev_c, MM.Q.ev_k, MM.Q.frzO_some, MM.Q.tupO_some, MM.Q.tupO_none, MM.Q.bear_val, MM.Q.bear_frz, MM.Q.bear_ref, MM.Q.bear_own, MM.Q.bear_tup, MM.Q.allD_nil, MM.Q.allD_cons, MM.Q.allD_map, MM.Q.bearO_some, MM.Q.ev_bin, MM.Q.ev_bin1, MM.Q.ev_bin2, MM.Q.add_int, MM.Q.sub_int, MM.Q.mul_int, MM.Q.mod_int, MM.Q.fdiv_int, MM.Q.pow_int, MM.Q.intB_int, MM.Q.datO_f, MM.Q.datO_t, MM.Q.data_d, MM.Q.data_ref, MM.Q.data_own, MM.Q.ev_eq_r, MM.Q.ev_eq_o, MM.Q.ev_eq_l, MM.Q.ev_eq_t, MM.Q.ev_eq_i, MM.Q.ev_eq_b, MM.Q.ev_eq_n, MM.Q.ev_eq_st, MM.Q.ev_eq_sf, MM.Q.eqO_some, MM.Q.eqC_t, MM.Q.eqC_f, MM.Q.eqv_nil, MM.Q.eqv_int, MM.Q.eqv_bool, MM.Q.in_str, MM.Q.notIn_str, MM.Q.is_bool, MM.Q.isnot_bool, MM.Q.tst_bool, MM.Q.ev_tst, MM.Q.ev_truth, MM.Q.ev_tru, MM.Q.truO_some, MM.Q.truth_bool, MM.Q.truth_int, MM.Q.truth_none, MM.Q.truth_list, MM.Q.truth_tup, MM.Q.ev_andB, MM.Q.ev_orB, MM.Q.ev_notB, MM.Q.andB_t, MM.Q.andB_f, MM.Q.orB_t, MM.Q.orB_f, MM.Q.ev_notB1, MM.Q.ev_and, MM.Q.ev_or, MM.Q.and_tB, MM.Q.and_fB, MM.Q.or_tB, MM.Q.or_fB, MM.Q.ev_not, MM.Q.ev_not1, MM.Q.notO_some, MM.Q.ev_ifE, MM.Q.ifE_t, MM.Q.ifE_f, MM.Q.ev_nil, MM.Q.ev_cons, MM.Q.ev_cons1, MM.Q.ev_cons2, MM.Q.ev_disp, MM.Q.disp_lst, MM.Q.disp_tup, MM.Q.frees_nil, MM.Q.frees_cons, MM.Q.free_d, MM.Q.free_ref, MM.Q.free_adr, MM.Q.dI_snoc, MM.Q.dI_len, MM.Q.allD_dI, MM.Q.dI_nil, MM.Q.allD_dIs, MM.Q.frees_map, MM.Q.ev_cb, MM.Q.ev_cb1, MM.Q.ev_call, MM.Q.ev_call1, MM.Q.ev_call0, MM.Q.ev_callK, MM.Q.ev_callK1, MM.Q.ev_callK2, MM.Q.ldd_some, MM.Q.laid_nil, MM.Q.laid_k, MM.Q.laid_p, MM.Q.ixO_some, MM.Q.ev_ix, MM.Q.ev_ix1, MM.Q.ev_ix2, MM.Q.ix_list, MM.Q.ix_tup, MM.Q.refS_lst, MM.Q.refS_tup, MM.Q.seq_ref, MM.Q.seq_own, MM.Q.seq_list, MM.Q.seq_tup, MM.Q.ixK_some, MM.Q.ix_ref, MM.Q.ix_own, MM.Q.listO_f, MM.Q.ev_list, MM.Q.at0, MM.Q.at1, MM.Q.at2, MM.Q.at3, MM.Q.at4, MM.Q.ixN0, MM.Q.ixN1, MM.Q.ixN2, MM.Q.ev_oN, MM.Q.ev_oS, MM.Q.oS_int, MM.Q.ev_sl, MM.Q.ev_sl1, MM.Q.ev_sl2, MM.Q.ev_sl3, MM.Q.ev_rev, MM.Q.rev_list, MM.Q.ev_bm, MM.Q.ev_bm1, MM.Q.cBM_t, MM.Q.ev_bm2, MM.Q.buO_some, MM.Q.ev_bu, MM.Q.ev_bu1, MM.Q.cBU_t, MM.Q.ev_bu2, MM.Q.ty_str, MM.Q.tyO_some, MM.Q.ty_ref, MM.Q.ty_own, MM.Q.ty_list, MM.Q.beq_ll, MM.Q.beq_ss, MM.Q.celO_some, MM.Q.cell_ref, MM.Q.cell_own, MM.Q.ev_append, MM.Q.appO_some, MM.Q.ev_extend, MM.Q.extO_some, MM.Q.ev_pop, MM.Q.popO_snoc, MM.Q.ev_ind, MM.Q.ev_ind1, MM.Q.ev_neg, MM.Q.neg_int, MM.Q.ev_iter, MM.Q.ev_it, MM.Q.itO_some, MM.Q.items_list, MM.Q.items_tup, MM.Q.ev_rg1, MM.Q.rg1_int, MM.Q.ev_lc, MM.Q.ev_lc1, MM.Q.ev_lc2, MM.Q.wipe_nil, MM.Q.wipe_cons, MM.Q.ev_seq, MM.Q.seq_nx, MM.Q.seq_rt, MM.Q.seq_exc, MM.Q.seq_bk, MM.Q.seq_ct, MM.Q.ev_asg, MM.Q.ev_asg1, MM.Q.nxO_some, MM.Q.mg_name, MM.Q.mg_nil, MM.Q.mg_consN, MM.Q.mg_tup, MM.Q.ev_expr, MM.Q.ev_expr1, MM.Q.ev_ret, MM.Q.ev_ret1, MM.Q.ev_retN, MM.Q.ev_skip, MM.Q.ev_brk, MM.Q.ev_cnt, MM.Q.ev_if, MM.Q.if_t, MM.Q.if_f, MM.Q.ev_for, MM.Q.ev_for1, MM.Q.ev_fz, MM.Q.fz_own, MM.Q.fzC_some, MM.Q.fzO_some, MM.Q.fz_d, MM.Q.fz_ref, MM.Q.stO_some, MM.Q.ev_st, MM.Q.ev_st1, MM.Q.ev_st2, MM.Q.ev_st3, MM.Q.ev_setIx, MM.Q.siO_some, MM.Q.ev_par, MM.Q.ev_par1, MM.Q.nones_zero, MM.Q.nones_succ, MM.Q.begin_eq,  MM.Q.ev_fn, MM.Q.fin_rt, MM.Q.fin_ref, MM.Q.fin_nx, MM.Q.trim_same, MM.Q.trim_app, MM.Q.ev_len, MM.Q.ev_lst_l, MM.Q.ev_lst_t, MM.Q.ev_lst_r, MM.Q.ev_lst_o, MM.Q.ev_l1, MM.Q.ev_sum, MM.Q.ev_all, MM.Q.ev_any, MM.Q.ev_isi, MM.Q.kind_str, MM.Q.kind_int, MM.Q.kind_bool, MM.Q.kind_none, MM.Q.kind_dict, MM.Q.kind_list, MM.Q.kind_tup, MM.Q.kit_ss, MM.Q.kit_is, MM.Q.kit_bs, MM.Q.kit_ns, MM.Q.kit_ds, MM.Q.kit_ls, MM.Q.kit_ts, MM.Q.ev_repr, MM.Q.ev_join, MM.Q.lenO_some, MM.Q.len_list, MM.Q.len_tup, MM.Q.lnO_some, MM.Q.len_ref, MM.Q.len_own, MM.Q.lisO_some, MM.Q.l1O_some, MM.Q.ints_map, MM.Q.bools_map, MM.Q.strs_map, MM.Q.isiO_some, MM.Q.jnO_some, MM.Q.len_st, MM.Q.add_st, MM.Q.mul_st, MM.Q.ix_st, MM.Q.sl_st, MM.Q.rev_st, MM.Q.eqv_st, MM.Q.st_dec, MM.Q.divmod_int, MM.Q.items_st, MM.Q.allD_mapf, MM.Q.strs_mapf, MM.Q.ints_mapf, MM.Q.bools_mapf, MM.Q.join_ones_some, MM.Q.sl_own, MM.Q.sl_ref, MM.Q.sl_list, MM.Q.slO_some, MM.Q.add_own, MM.Q.add_ref, MM.Q.add_list, MM.Q.catO_some, MM.Q.cutL_map, MM.Q.mg_tupL, MM.Q.ev_ch, MM.Q.ev_ch1, MM.Q.ev_ch2, MM.Q.ch_t, MM.Q.ch_f, MM.Q.ev_ch3, MM.Q.starts_str, MM.Q.ends_str, MM.Q.upper_str, MM.Q.part_str, MM.Q.ev_fmt, MM.Q.ev_fmtR, MM.Q.fmt_st, MM.Q.fmt_int, MM.Q.ev_js_nil, MM.Q.ev_js_cons, MM.Q.ev_js1, MM.Q.ev_js2, MM.Q.jsF_some, MM.Q.js_st, MM.Q.ev_pr_nil, MM.Q.ev_pr_cons, MM.Q.ev_pr1, MM.Q.ev_pr2, MM.Q.ev_pr3, MM.Q.ev_dct, MM.Q.ev_dct1, MM.Q.keys_one, MM.Q.dctF_one, MM.Q.tup_list, MM.Q.tup_tup, MM.Q.tup_st, MM.Q.lst_st, MM.Q.mul_list, MM.Q.mul_tup, MM.Q.ev_popK, MM.Q.in_own, MM.Q.in_ref, MM.Q.in_list, MM.Q.inO_t, MM.Q.inO_f, MM.Q.b2i_t, MM.Q.b2i_f, MM.Q.int_int, MM.Q.int_bool, MM.Q.ev_rg2, MM.Q.rg2_int, MM.Q.ev_en, MM.Q.en_list, MM.Q.en_tup, MM.Q.en_st, MM.Q.ev_sortSc, MM.Q.ev_lenSc, MM.Q.ev_sc1, MM.Q.ev_scL1, MM.Q.ev_sc2, MM.Q.ev_scL2, 
  List.map_cons, List.map_nil, List.length_cons, List.length_nil, List.append_nil, List.nil_append, List.cons_append, List.getElem?_cons_zero, List.getElem?_cons_succ, List.set_cons_zero, List.set_cons_succ, Bool.and_true, Bool.true_and, Option.bind_some, Option.map_some, Nat.reduceAdd, Nat.reduceSub, Nat.add_sub_cancel, Nat.sub_self])
--- imports sig
/-! marks drawn -/
theorem fgs_at {i : Int} (h : 0 ≤ i) (h2 : i < 32) : ∃ d, atI fgs i = some d ∧ d ∈ fgs := by
  obtain ⟨d, hd, e⟩ := Q.atI_mem (xs := fgs) h (by rw [fgs_len]; omega)
  exact ⟨d, e, hd⟩
theorem markB_of {l : List Nat} (h1 : l.length = 8) (h3 : ∀ c ∈ l, c ∈ fgs) : markB l = true := by
  unfold markB
  rw [decide_eq_true h1, Bool.true_and]
  exact List.all_eq_true.mpr fun c hc => decide_eq_true (h3 c hc)
theorem of_markB {l : List Nat} (h : markB l = true) : l.length = 8 ∧ ∀ c ∈ l, c ∈ fgs := by
  unfold markB at h
  simp only [Bool.and_eq_true, decide_eq_true_eq, List.all_eq_true] at h
  exact h

end Law
end
section
set_option Elab.async false
set_option linter.all false
set_option maxRecDepth 100000
set_option maxHeartbeats 4000000
set_option autoImplicit false
namespace Law
open PySem PySem.Spec PyProof.Rows L2 MM
local macro_rules | `(tactic| walk_at "mm") => `(tactic| simp (disch := first | assumption | omega | exact MM.Q.shaped_int | exact MM.Q.shaped_nil | exact MM.Q.shaped_ints | exact MM.Q.shaped_bool | (refine of_eq_true (eq_true ?_); first | with_unfolding_all rfl | (simp only [MM.Q.free_d, MM.Q.free_ref, MM.Q.free_adr, MM.Q.frees_nil, MM.Q.frees_cons, MM.Q.frees_map, Bool.and_true, Bool.true_and]; done)) | (simp only [List.length_cons, List.length_nil, List.append_nil, List.map_cons, List.map_nil, List.length_append, List.length_map, List.length_reverse, MM.Q.dI_len, PySem.sizeLine_eq]; omega)) only [MM.Q.bind_ok, MM.Q.bind_exc, MM.Q.go_ok, MM.Q.go_exc, MM.Q.nox_ok, MM.Q.vr_some, MM.Q.ev_var, MM.Q.ev_c, MM.Q.ev_k, MM.Q.frzO_some, MM.Q.tupO_some, MM.Q.tupO_none, MM.Q.bear_val, MM.Q.bear_frz, MM.Q.bear_ref, MM.Q.bear_own, MM.Q.bear_tup, MM.Q.allD_nil, MM.Q.allD_cons, MM.Q.allD_map, MM.Q.bearO_some, MM.Q.ev_bin, MM.Q.ev_bin1, MM.Q.ev_bin2, MM.Q.add_int, MM.Q.sub_int, MM.Q.mul_int, MM.Q.mod_int, MM.Q.fdiv_int, MM.Q.pow_int, MM.Q.intB_int, MM.Q.datO_f, MM.Q.datO_t, MM.Q.data_d, MM.Q.data_ref, MM.Q.data_own, MM.Q.ev_eq_r, MM.Q.ev_eq_o, MM.Q.ev_eq_l, MM.Q.ev_eq_t, MM.Q.ev_eq_i, MM.Q.ev_eq_b, MM.Q.ev_eq_n, MM.Q.ev_eq_st, MM.Q.ev_eq_sf, MM.Q.eqO_some, MM.Q.eqC_t, MM.Q.eqC_f, MM.Q.eqv_nil, MM.Q.eqv_int, MM.Q.eqv_bool, MM.Q.in_str, MM.Q.notIn_str, MM.Q.is_bool, MM.Q.isnot_bool, MM.Q.tst_bool, MM.Q.ev_tst, MM.Q.ev_truth, MM.Q.ev_tru, MM.Q.truO_some, MM.Q.truth_bool, MM.Q.truth_int, MM.Q.truth_none, MM.Q.truth_list, MM.Q.truth_tup, MM.Q.ev_andB, MM.Q.ev_orB, MM.Q.ev_notB, MM.Q.andB_t, MM.Q.andB_f, MM.Q.orB_t, MM.Q.orB_f, MM.Q.ev_notB1, MM.Q.ev_and, MM.Q.ev_or, MM.Q.and_tB, MM.Q.and_fB, MM.Q.or_tB, MM.Q.or_fB, MM.Q.ev_not, MM.Q.ev_not1, MM.Q.notO_some, MM.Q.ev_ifE, MM.Q.ifE_t, MM.Q.ifE_f, MM.Q.ev_nil, MM.Q.ev_cons, MM.Q.ev_cons1, MM.Q.ev_cons2, MM.Q.ev_disp, MM.Q.disp_lst, MM.Q.disp_tup, MM.Q.frees_nil, MM.Q.frees_cons, MM.Q.free_d, MM.Q.free_ref, MM.Q.free_adr, MM.Q.dI_snoc, MM.Q.dI_len, MM.Q.allD_dI, MM.Q.dI_nil, MM.Q.allD_dIs, MM.Q.frees_map, MM.Q.ev_cb, MM.Q.ev_cb1, MM.Q.ev_call, MM.Q.ev_call1, MM.Q.ev_call0, MM.Q.ev_callK, MM.Q.ev_callK1, MM.Q.ev_callK2, MM.Q.ldd_some, MM.Q.laid_nil, MM.Q.laid_k, MM.Q.laid_p, MM.Q.ixO_some, MM.Q.ev_ix, MM.Q.ev_ix1, MM.Q.ev_ix2, MM.Q.ix_list, MM.Q.ix_tup, MM.Q.refS_lst, MM.Q.refS_tup, MM.Q.seq_ref, MM.Q.seq_own, MM.Q.seq_list, MM.Q.seq_tup, MM.Q.ixK_some, MM.Q.ix_ref, MM.Q.ix_own, MM.Q.listO_f, MM.Q.ev_list, MM.Q.at0, MM.Q.at1, MM.Q.at2, MM.Q.at3, MM.Q.at4, MM.Q.ixN0, MM.Q.ixN1, MM.Q.ixN2, MM.Q.ev_oN, MM.Q.ev_oS, MM.Q.oS_int, MM.Q.ev_sl, MM.Q.ev_sl1, MM.Q.ev_sl2, MM.Q.ev_sl3, MM.Q.ev_rev, MM.Q.rev_list, MM.Q.ev_bm, MM.Q.ev_bm1, MM.Q.cBM_t, MM.Q.ev_bm2, MM.Q.buO_some, MM.Q.ev_bu, MM.Q.ev_bu1, MM.Q.cBU_t, MM.Q.ev_bu2, MM.Q.ty_str, MM.Q.tyO_some, MM.Q.ty_ref, MM.Q.ty_own, MM.Q.ty_list, MM.Q.beq_ll, MM.Q.beq_ss, MM.Q.celO_some, MM.Q.cell_ref, MM.Q.cell_own, MM.Q.ev_append, MM.Q.appO_some, MM.Q.ev_extend, MM.Q.extO_some, MM.Q.ev_pop, MM.Q.popO_snoc, MM.Q.ev_ind, MM.Q.ev_ind1, MM.Q.ev_neg, MM.Q.neg_int, MM.Q.ev_iter, MM.Q.ev_it, MM.Q.itO_some, MM.Q.items_list, MM.Q.items_tup, MM.Q.ev_rg1, MM.Q.rg1_int, MM.Q.ev_lc, MM.Q.ev_lc1, MM.Q.ev_lc2, MM.Q.wipe_nil, MM.Q.wipe_cons, MM.Q.ev_seq, MM.Q.seq_nx, MM.Q.seq_rt, MM.Q.seq_exc, MM.Q.seq_bk, MM.Q.seq_ct, MM.Q.ev_asg, MM.Q.ev_asg1, MM.Q.nxO_some, MM.Q.mg_name, MM.Q.mg_nil, MM.Q.mg_consN, MM.Q.mg_tup, MM.Q.ev_expr, MM.Q.ev_expr1, MM.Q.ev_ret, MM.Q.ev_ret1, MM.Q.ev_retN, MM.Q.ev_skip, MM.Q.ev_brk, MM.Q.ev_cnt, MM.Q.ev_if, MM.Q.if_t, MM.Q.if_f, MM.Q.ev_for, MM.Q.ev_for1, MM.Q.ev_fz, MM.Q.fz_own, MM.Q.fzC_some, MM.Q.fzO_some, MM.Q.fz_d, MM.Q.fz_ref, MM.Q.stO_some, MM.Q.ev_st, MM.Q.ev_st1, MM.Q.ev_st2, MM.Q.ev_st3, MM.Q.ev_setIx, MM.Q.siO_some, MM.Q.ev_par, MM.Q.ev_par1, MM.Q.nones_zero, MM.Q.nones_succ, MM.Q.begin_eq, draw_int, dS_len, dS_app, dS_get, dS_set, sg_app, sg_app2, ag0, ag1, ag2, ag3, as0, as1, as2, as3, al1, al2, al3, dS_trim, dS_trim0, dS_trimc, Int.reduceToNat, Int.toNat_natCast, List.length_map,  MM.Q.ev_fn, MM.Q.fin_rt, MM.Q.fin_ref, MM.Q.fin_nx, MM.Q.trim_same, MM.Q.trim_app, MM.Q.ev_len, MM.Q.ev_lst_l, MM.Q.ev_lst_t, MM.Q.ev_lst_r, MM.Q.ev_lst_o, MM.Q.ev_l1, MM.Q.ev_sum, MM.Q.ev_all, MM.Q.ev_any, MM.Q.ev_isi, MM.Q.kind_str, MM.Q.kind_int, MM.Q.kind_bool, MM.Q.kind_none, MM.Q.kind_dict, MM.Q.kind_list, MM.Q.kind_tup, MM.Q.kit_ss, MM.Q.kit_is, MM.Q.kit_bs, MM.Q.kit_ns, MM.Q.kit_ds, MM.Q.kit_ls, MM.Q.kit_ts, MM.Q.ev_repr, MM.Q.ev_join, MM.Q.lenO_some, MM.Q.len_list, MM.Q.len_tup, MM.Q.lnO_some, MM.Q.len_ref, MM.Q.len_own, MM.Q.lisO_some, MM.Q.l1O_some, MM.Q.ints_map, MM.Q.bools_map, MM.Q.strs_map, MM.Q.isiO_some, MM.Q.jnO_some, MM.Q.len_st, MM.Q.add_st, MM.Q.mul_st, MM.Q.ix_st, MM.Q.sl_st, MM.Q.rev_st, MM.Q.eqv_st, MM.Q.st_dec, MM.Q.divmod_int, MM.Q.items_st, MM.Q.allD_mapf, MM.Q.strs_mapf, MM.Q.ints_mapf, MM.Q.bools_mapf, MM.Q.join_ones_some, MM.Q.sl_own, MM.Q.sl_ref, MM.Q.sl_list, MM.Q.slO_some, MM.Q.add_own, MM.Q.add_ref, MM.Q.add_list, MM.Q.catO_some, MM.Q.cutL_map, MM.Q.mg_tupL, MM.Q.ev_ch, MM.Q.ev_ch1, MM.Q.ev_ch2, MM.Q.ch_t, MM.Q.ch_f, MM.Q.ev_ch3, MM.Q.starts_str, MM.Q.ends_str, MM.Q.upper_str, MM.Q.part_str, MM.Q.ev_fmt, MM.Q.ev_fmtR, MM.Q.fmt_st, MM.Q.fmt_int, MM.Q.ev_js_nil, MM.Q.ev_js_cons, MM.Q.ev_js1, MM.Q.ev_js2, MM.Q.jsF_some, MM.Q.js_st, MM.Q.ev_pr_nil, MM.Q.ev_pr_cons, MM.Q.ev_pr1, MM.Q.ev_pr2, MM.Q.ev_pr3, MM.Q.ev_dct, MM.Q.ev_dct1, MM.Q.keys_one, MM.Q.dctF_one, MM.Q.tup_list, MM.Q.tup_tup, MM.Q.tup_st, MM.Q.lst_st, MM.Q.mul_list, MM.Q.mul_tup, MM.Q.ev_popK, MM.Q.in_own, MM.Q.in_ref, MM.Q.in_list, MM.Q.inO_t, MM.Q.inO_f, MM.Q.b2i_t, MM.Q.b2i_f, MM.Q.int_int, MM.Q.int_bool, MM.Q.ev_rg2, MM.Q.rg2_int, MM.Q.ev_en, MM.Q.en_list, MM.Q.en_tup, MM.Q.en_st, MM.Q.ev_sortSc, MM.Q.ev_lenSc, MM.Q.ev_sc1, MM.Q.ev_scL1, MM.Q.ev_sc2, MM.Q.ev_scL2, 
  List.map_cons, List.map_nil, List.length_cons, List.length_nil, List.append_nil, List.nil_append, List.cons_append, List.getElem?_cons_zero, List.getElem?_cons_succ, List.set_cons_zero, List.set_cons_succ, Bool.and_true, Bool.true_and, Option.bind_some, Option.map_some, Nat.reduceAdd, Nat.reduceSub, Nat.add_sub_cancel, Nat.sub_self])
--- imports deck mk
theorem fgs_ind {d : Nat} (h : d ∈ fgs) : ∃ k : Nat, Txt.index0 (Q.st fgs) (Q.st [d]) = some k ∧ k < 32 := by
  have : ∀ d ∈ fgs, (match Txt.index0 (Q.st fgs) (Q.st [d]) with | some k => decide (k < 32) | none => false) = true := by decide +kernel
  have := this d h
  cases e : Txt.index0 (Q.st fgs) (Q.st [d]) with
  | none => rw [e] at this; cases this
  | some k => rw [e] at this; exact ⟨k, rfl, of_decide_eq_true this⟩
theorem draw_marks {o2 o3 o4 o5 : Option Mv} {D : Dk} {T : Sg} {js : List Mv} (hj : js.length ≤ 1000) :
    ∃ (ts : List Nat) (E : Dk), lcLoop (mgName 5) mYes e_L_marks_1 [some (.ref 1), some (mS fgs), o2, o3, o4, o5] js [] (dS D T) = .ok (ts.map fun c => .d (.str (Q.st [c]))) (dS E T) ∧ ts.length = js.length ∧ (∀ d ∈ ts, d ∈ fgs) := by
  have h16 : sizeLine = 16777216 := PySem.sizeLine_eq
  have hs : fgs.length ≤ sizeLine := by rw [fgs_len]; omega
  obtain ⟨ys, E, e, e1, e2⟩ := @lc_dk T [some (.ref 1), some (mS fgs), o2, o3, o4, o5] (mgName 5) e_L_marks_1 (fun y => ∃ d, d ∈ fgs ∧ y = .d (.str (Q.st [d]))) js D (fun x _ D => by
    obtain ⟨d, ed, hd⟩ := fgs_at (i := (dr D 32).val) (by omega) (by omega)
    refine ⟨[some (.ref 1), some (mS fgs), o2, o3, o4, some x], .d (.str (Q.st [d])), nx D 32, rfl, ?_, rfl, d, hd, rfl⟩
    unfold e_L_marks_1
    walk_at "mm"
    rw [ed]
    walk_at "mm") (by omega)
  obtain ⟨ts, rfl, ht⟩ := Q.pick_all e2
  exact ⟨ts, E, e, by rw [← e1, List.length_map], ht⟩
theorem spec_L_marks (D : Dk) (T : Sg) : ∃ (a b c : List Nat) (E : Dk), f_L_marks [.ref 1] (dS D T) = .ok (.d (.list [pS a, pS b, pS c])) (dS E T) ∧ markB a = true ∧ markB b = true ∧ markB c = true := by
  have h16 : sizeLine = 16777216 := PySem.sizeLine_eq
  have hs : fgs.length ≤ sizeLine := by rw [fgs_len]; omega
  obtain ⟨ts, D1, e2, w2, g2⟩ := draw_marks (o2 := none) (o3 := none) (o4 := none) (o5 := none) (D := D) (T := T) (js := rangeL 0 8) (by decide)
  have w8 : ts.length = 8 := w2
  have hr : (dr D1 8).val < ts.length := by have := (dr D1 8).isLt; omega
  obtain ⟨d, ed, hd⟩ : ∃ d, atI ts ((dr D1 8).val : Nat) = some d ∧ d ∈ fgs := by
    obtain ⟨d, hd, e⟩ := Q.atI_mem (xs := ts) (i := ((dr D1 8).val : Nat)) (by omega) (by omega)
    exact ⟨d, e, g2 d hd⟩
  obtain ⟨k, ek, hk⟩ := fgs_ind hd
  obtain ⟨x, ex, hx⟩ := fgs_at (i := ((k : Int) + 1) % 32) (by omega) (by omega)
  have c1 : Q.cutL ts none (some ((dr D1 8).val : Int)) = ts.take (dr D1 8).val := Q.cutL_to
  have c2 : Q.cutL ts (some (((dr D1 8).val : Int) + 1)) none = ts.drop ((dr D1 8).val + 1) := by
    rw [show (((dr D1 8).val : Int) + 1) = (((dr D1 8).val + 1 : Nat) : Int) by omega]; exact Q.cutL_from
  refine ⟨ts, ts.take (dr D1 8).val ++ [x] ++ ts.drop ((dr D1 8).val + 1), List.replicate 8 48, nx D1 8, ?_, markB_of w8 g2, markB_of ?_ ?_, by decide⟩
  · unfold f_L_marks m_L_marks
    walk_at "mm"
    rw [lit_f]
    rw [e2]
    walk_at "mm"
    rw [lit_e]
    walk_at "mm"
    rw [ed]
    walk_at "mm"
    rw [Q.ind_some ek]
    walk_at "mm"
    rw [ex]
    walk_at "mm"
    have l1 : (ts.take (dr D1 8).val).length ≤ 8 := by rw [List.length_take]; omega
    have l2 : (ts.drop ((dr D1 8).val + 1)).length ≤ 8 := by rw [List.length_drop]; omega
    rw [c1]
    walk_at "mm"
    rw [c2]
    walk_at "mm"
    rw [show Str.ofString "00000000" = Q.st (List.replicate 8 48) by decide +kernel]
  · simp only [List.length_append, List.length_take, List.length_drop, List.length_singleton]; omega
  · intro c hc
    simp only [List.mem_append, List.mem_singleton] at hc
    rcases hc with (hc | rfl) | hc
    · exact g2 c (List.mem_of_mem_take hc)
    · exact hx
    · exact g2 c (List.mem_of_mem_drop hc)

end Law
end
section
set_option Elab.async false
set_option linter.all false
set_option maxRecDepth 100000
set_option maxHeartbeats 4000000
set_option autoImplicit false
namespace Law
open PySem PySem.Spec PyProof.Rows L2 MM
local macro_rules | `(tactic| walk_at "mm") => `(tactic| simp (disch := first | assumption | omega | exact MM.Q.shaped_int | exact MM.Q.shaped_nil | exact MM.Q.shaped_ints | exact MM.Q.shaped_bool | (refine of_eq_true (eq_true ?_); first | with_unfolding_all rfl | (simp only [MM.Q.free_d, MM.Q.free_ref, MM.Q.free_adr, MM.Q.frees_nil, MM.Q.frees_cons, MM.Q.frees_map, Bool.and_true, Bool.true_and]; done)) | (simp only [List.length_cons, List.length_nil, List.append_nil, List.map_cons, List.map_nil, List.length_append, List.length_map, List.length_reverse, MM.Q.dI_len, PySem.sizeLine_eq]; omega)) only [MM.Q.bind_ok, MM.Q.bind_exc, MM.Q.go_ok, MM.Q.go_exc, MM.Q.nox_ok, MM.Q.vr_some, MM.Q.ev_var, MM.Q.ev_c, MM.Q.ev_k, MM.Q.frzO_some, MM.Q.tupO_some, MM.Q.tupO_none, MM.Q.bear_val, MM.Q.bear_frz, MM.Q.bear_ref, MM.Q.bear_own, MM.Q.bear_tup, MM.Q.allD_nil, MM.Q.allD_cons, MM.Q.allD_map, MM.Q.bearO_some, MM.Q.ev_bin, MM.Q.ev_bin1, MM.Q.ev_bin2, MM.Q.add_int, MM.Q.sub_int, MM.Q.mul_int, MM.Q.mod_int, MM.Q.fdiv_int, MM.Q.pow_int, MM.Q.intB_int, MM.Q.datO_f, MM.Q.datO_t, MM.Q.data_d, MM.Q.data_ref, MM.Q.data_own, MM.Q.ev_eq_r, MM.Q.ev_eq_o, MM.Q.ev_eq_l, MM.Q.ev_eq_t, MM.Q.ev_eq_i, MM.Q.ev_eq_b, MM.Q.ev_eq_n, MM.Q.ev_eq_st, MM.Q.ev_eq_sf, MM.Q.eqO_some, MM.Q.eqC_t, MM.Q.eqC_f, MM.Q.eqv_nil, MM.Q.eqv_int, MM.Q.eqv_bool, MM.Q.in_str, MM.Q.notIn_str, MM.Q.is_bool, MM.Q.isnot_bool, MM.Q.tst_bool, MM.Q.ev_tst, MM.Q.ev_truth, MM.Q.ev_tru, MM.Q.truO_some, MM.Q.truth_bool, MM.Q.truth_int, MM.Q.truth_none, MM.Q.truth_list, MM.Q.truth_tup, MM.Q.ev_andB, MM.Q.ev_orB, MM.Q.ev_notB, MM.Q.andB_t, MM.Q.andB_f, MM.Q.orB_t, MM.Q.orB_f, MM.Q.ev_notB1, MM.Q.ev_and, MM.Q.ev_or, MM.Q.and_tB, MM.Q.and_fB, MM.Q.or_tB, MM.Q.or_fB, MM.Q.ev_not, MM.Q.ev_not1, MM.Q.notO_some, MM.Q.ev_ifE, MM.Q.ifE_t, MM.Q.ifE_f, MM.Q.ev_nil, MM.Q.ev_cons, MM.Q.ev_cons1, MM.Q.ev_cons2, MM.Q.ev_disp, MM.Q.disp_lst, MM.Q.disp_tup, MM.Q.frees_nil, MM.Q.frees_cons, MM.Q.free_d, MM.Q.free_ref, MM.Q.free_adr, MM.Q.dI_snoc, MM.Q.dI_len, MM.Q.allD_dI, MM.Q.dI_nil, MM.Q.allD_dIs, MM.Q.frees_map, MM.Q.ev_cb, MM.Q.ev_cb1, MM.Q.ev_call, MM.Q.ev_call1, MM.Q.ev_call0, MM.Q.ev_callK, MM.Q.ev_callK1, MM.Q.ev_callK2, MM.Q.ldd_some, MM.Q.laid_nil, MM.Q.laid_k, MM.Q.laid_p, MM.Q.ixO_some, MM.Q.ev_ix, MM.Q.ev_ix1, MM.Q.ev_ix2, MM.Q.ix_list, MM.Q.ix_tup, MM.Q.refS_lst, MM.Q.refS_tup, MM.Q.seq_ref, MM.Q.seq_own, MM.Q.seq_list, MM.Q.seq_tup, MM.Q.ixK_some, MM.Q.ix_ref, MM.Q.ix_own, MM.Q.listO_f, MM.Q.ev_list, MM.Q.at0, MM.Q.at1, MM.Q.at2, MM.Q.at3, MM.Q.at4, MM.Q.ixN0, MM.Q.ixN1, MM.Q.ixN2, MM.Q.ev_oN, MM.Q.ev_oS, MM.Q.oS_int, MM.Q.ev_sl, MM.Q.ev_sl1, MM.Q.ev_sl2, MM.Q.ev_sl3, MM.Q.ev_rev, MM.Q.rev_list, MM.Q.ev_bm, MM.Q.ev_bm1, MM.Q.cBM_t, MM.Q.ev_bm2, MM.Q.buO_some, MM.Q.ev_bu, MM.Q.ev_bu1, MM.Q.cBU_t, MM.Q.ev_bu2, MM.Q.ty_str, MM.Q.tyO_some, MM.Q.ty_ref, MM.Q.ty_own, MM.Q.ty_list, MM.Q.beq_ll, MM.Q.beq_ss, MM.Q.celO_some, MM.Q.cell_ref, MM.Q.cell_own, MM.Q.ev_append, MM.Q.appO_some, MM.Q.ev_extend, MM.Q.extO_some, MM.Q.ev_pop, MM.Q.popO_snoc, MM.Q.ev_ind, MM.Q.ev_ind1, MM.Q.ev_neg, MM.Q.neg_int, MM.Q.ev_iter, MM.Q.ev_it, MM.Q.itO_some, MM.Q.items_list, MM.Q.items_tup, MM.Q.ev_rg1, MM.Q.rg1_int, MM.Q.ev_lc, MM.Q.ev_lc1, MM.Q.ev_lc2, MM.Q.wipe_nil, MM.Q.wipe_cons, MM.Q.ev_seq, MM.Q.seq_nx, MM.Q.seq_rt, MM.Q.seq_exc, MM.Q.seq_bk, MM.Q.seq_ct, MM.Q.ev_asg, MM.Q.ev_asg1, MM.Q.nxO_some, MM.Q.mg_name, MM.Q.mg_nil, MM.Q.mg_consN, MM.Q.mg_tup, MM.Q.ev_expr, MM.Q.ev_expr1, MM.Q.ev_ret, MM.Q.ev_ret1, MM.Q.ev_retN, MM.Q.ev_skip, MM.Q.ev_brk, MM.Q.ev_cnt, MM.Q.ev_if, MM.Q.if_t, MM.Q.if_f, MM.Q.ev_for, MM.Q.ev_for1, MM.Q.ev_fz, MM.Q.fz_own, MM.Q.fzC_some, MM.Q.fzO_some, MM.Q.fz_d, MM.Q.fz_ref, MM.Q.stO_some, MM.Q.ev_st, MM.Q.ev_st1, MM.Q.ev_st2, MM.Q.ev_st3, MM.Q.ev_setIx, MM.Q.siO_some, MM.Q.ev_par, MM.Q.ev_par1, MM.Q.nones_zero, MM.Q.nones_succ, MM.Q.begin_eq, draw_int, dS_len, dS_app, dS_get, dS_set, sg_app, sg_app2, ag0, ag1, ag2, ag3, as0, as1, as2, as3, al1, al2, al3, dS_trim, dS_trim0, dS_trimc, Int.reduceToNat, Int.toNat_natCast, List.length_map,  MM.Q.ev_fn, MM.Q.fin_rt, MM.Q.fin_ref, MM.Q.fin_nx, MM.Q.trim_same, MM.Q.trim_app, MM.Q.ev_len, MM.Q.ev_lst_l, MM.Q.ev_lst_t, MM.Q.ev_lst_r, MM.Q.ev_lst_o, MM.Q.ev_l1, MM.Q.ev_sum, MM.Q.ev_all, MM.Q.ev_any, MM.Q.ev_isi, MM.Q.kind_str, MM.Q.kind_int, MM.Q.kind_bool, MM.Q.kind_none, MM.Q.kind_dict, MM.Q.kind_list, MM.Q.kind_tup, MM.Q.kit_ss, MM.Q.kit_is, MM.Q.kit_bs, MM.Q.kit_ns, MM.Q.kit_ds, MM.Q.kit_ls, MM.Q.kit_ts, MM.Q.ev_repr, MM.Q.ev_join, MM.Q.lenO_some, MM.Q.len_list, MM.Q.len_tup, MM.Q.lnO_some, MM.Q.len_ref, MM.Q.len_own, MM.Q.lisO_some, MM.Q.l1O_some, MM.Q.ints_map, MM.Q.bools_map, MM.Q.strs_map, MM.Q.isiO_some, MM.Q.jnO_some, MM.Q.len_st, MM.Q.add_st, MM.Q.mul_st, MM.Q.ix_st, MM.Q.sl_st, MM.Q.rev_st, MM.Q.eqv_st, MM.Q.st_dec, MM.Q.divmod_int, MM.Q.items_st, MM.Q.allD_mapf, MM.Q.strs_mapf, MM.Q.ints_mapf, MM.Q.bools_mapf, MM.Q.join_ones_some, MM.Q.sl_own, MM.Q.sl_ref, MM.Q.sl_list, MM.Q.slO_some, MM.Q.add_own, MM.Q.add_ref, MM.Q.add_list, MM.Q.catO_some, MM.Q.cutL_map, MM.Q.mg_tupL, MM.Q.ev_ch, MM.Q.ev_ch1, MM.Q.ev_ch2, MM.Q.ch_t, MM.Q.ch_f, MM.Q.ev_ch3, MM.Q.starts_str, MM.Q.ends_str, MM.Q.upper_str, MM.Q.part_str, MM.Q.ev_fmt, MM.Q.ev_fmtR, MM.Q.fmt_st, MM.Q.fmt_int, MM.Q.ev_js_nil, MM.Q.ev_js_cons, MM.Q.ev_js1, MM.Q.ev_js2, MM.Q.jsF_some, MM.Q.js_st, MM.Q.ev_pr_nil, MM.Q.ev_pr_cons, MM.Q.ev_pr1, MM.Q.ev_pr2, MM.Q.ev_pr3, MM.Q.ev_dct, MM.Q.ev_dct1, MM.Q.keys_one, MM.Q.dctF_one, MM.Q.tup_list, MM.Q.tup_tup, MM.Q.tup_st, MM.Q.lst_st, MM.Q.mul_list, MM.Q.mul_tup, MM.Q.ev_popK, MM.Q.in_own, MM.Q.in_ref, MM.Q.in_list, MM.Q.inO_t, MM.Q.inO_f, MM.Q.b2i_t, MM.Q.b2i_f, MM.Q.int_int, MM.Q.int_bool, MM.Q.ev_rg2, MM.Q.rg2_int, MM.Q.ev_en, MM.Q.en_list, MM.Q.en_tup, MM.Q.en_st, MM.Q.ev_sortSc, MM.Q.ev_lenSc, MM.Q.ev_sc1, MM.Q.ev_scL1, MM.Q.ev_sc2, MM.Q.ev_scL2, 
  List.map_cons, List.map_nil, List.length_cons, List.length_nil, List.append_nil, List.nil_append, List.cons_append, List.getElem?_cons_zero, List.getElem?_cons_succ, List.set_cons_zero, List.set_cons_succ, Bool.and_true, Bool.true_and, Option.bind_some, Option.map_some, Nat.reduceAdd, Nat.reduceSub, Nat.add_sub_cancel, Nat.sub_self])
--- imports deck sig
theorem mem_cut {α : Type} {l : List α} {lo hi : Option Int} {x : α} (h : x ∈ Q.cutL l lo hi) : x ∈ l := Q.cutL_mem h
/-- the letters, place by place -/
theorem let_at {i : Int} (h : 0 ≤ i) (h2 : i < 26) : ∃ d, atI lets i = some d ∧ d ∈ lets := by
  obtain ⟨d, hd, e⟩ := Q.atI_mem (xs := lets) h (by rw [lets_len]; omega)
  exact ⟨d, e, hd⟩
theorem wordB_of {l : List Nat} (h1 : 1 ≤ l.length) (h2 : l.length ≤ 8) (h3 : ∀ c ∈ l, c ∈ lets) : wordB l = true := by
  unfold wordB
  rw [decide_eq_true h1, decide_eq_true h2, Bool.true_and, Bool.true_and]
  exact List.all_eq_true.mpr fun c hc => decide_eq_true (h3 c hc)
theorem of_wordB {l : List Nat} (h : wordB l = true) : 1 ≤ l.length ∧ l.length ≤ 8 ∧ ∀ c ∈ l, c ∈ lets := by
  unfold wordB at h
  simp only [Bool.and_eq_true, decide_eq_true_eq, List.all_eq_true] at h
  exact ⟨h.1, h.2.1, h.2.2⟩
theorem lets_lt {c : Nat} (h : c ∈ lets) : c < 0x110000 := isG_ok (lets_good h)
/-- a list of words as data -/
theorem words_data {L : List (List Nat)} : allD (L.map mS) = some (L.map fun l => PyData.str (Q.st l)) := Q.allD_mapf
/-- drawn letters -/
theorem draw_lets {o1 o3 o4 o5 o6 o7 o8 o9 o10 o11 : Option Mv} {D : Dk} {T : Sg} {js : List Mv} (hj : js.length ≤ 1000) :
    ∃ (ts : List Nat) (E : Dk), lcLoop (mgName 8) mYes e_L_words_1 [some (.ref 1), o1, some (mS lets), o3, o4, o5, o6, o7, o8, o9, o10, o11] js [] (dS D T) = .ok (ts.map fun c => .d (.str (Q.st [c]))) (dS E T) ∧ ts.length = js.length ∧ ∀ d ∈ ts, d ∈ lets := by
  have h16 : sizeLine = 16777216 := PySem.sizeLine_eq
  have hs : lets.length ≤ sizeLine := by rw [lets_len]; omega
  obtain ⟨ys, E, e, e1, e2⟩ := @lc_dk T [some (.ref 1), o1, some (mS lets), o3, o4, o5, o6, o7, o8, o9, o10, o11] (mgName 8) e_L_words_1 (fun y => ∃ d, d ∈ lets ∧ y = .d (.str (Q.st [d]))) js D (fun x _ D => by
    obtain ⟨d, ed, hd⟩ := let_at (i := (dr D 26).val) (by omega) (by omega)
    refine ⟨[some (.ref 1), o1, some (mS lets), o3, o4, o5, o6, o7, some x, o9, o10, o11], .d (.str (Q.st [d])), nx D 26, rfl, ?_, rfl, d, hd, rfl⟩
    unfold e_L_words_1
    walk_at "mm"
    rw [ed]
    walk_at "mm") (by omega)
  obtain ⟨ts, rfl, ht⟩ := Q.pick_all e2
  exact ⟨ts, E, e, by rw [← e1, List.length_map], ht⟩
/-- one more, if it is not among them -/
def addW (L : List (List Nat)) (o : List Nat) : List (List Nat) := if o ∈ L then L else L ++ [o]
theorem addW_mem {L : List (List Nat)} {o l : List Nat} : l ∈ addW L o ↔ l ∈ L ∨ l = o := by
  unfold addW
  by_cases h : o ∈ L
  · rw [if_pos h]
    exact ⟨.inl, fun q => q.elim id fun e => e ▸ h⟩
  · rw [if_neg h, List.mem_append, List.mem_singleton]
theorem addW_nodup {L : List (List Nat)} {o : List Nat} (h : L.Nodup) : (addW L o).Nodup := by
  unfold addW
  by_cases e : o ∈ L
  · rw [if_pos e]; exact h
  · rw [if_neg e]
    exact List.nodup_append.mpr ⟨h, by simp, fun x hx y hy z => e (by rw [List.mem_singleton.mp hy] at z; exact z ▸ hx)⟩
theorem addW_len {L : List (List Nat)} {o : List Nat} : (addW L o).length ≤ L.length + 1 := by
  unfold addW
  split
  · omega
  · simp
theorem add_word {o0 o1 o2 o3 o4 o5 o6 o8 o9 o11 : Option Mv} {D : Dk} {T : Sg} {L : List (List Nat)} {o : List Nat} (hL : L.length ≤ 1000) (hw : ∀ l ∈ L, wordB l = true) (ho : ∀ c ∈ o, c < 0x110000) :
    (mIfS (mTst (mBin .ref (gInN true) (mVar 10) (mVar 7))) (mExpr (mBU "list" uAppend (mVar 7) (mCons (mVar 10) (mNil)))) (mSkip)) [o0, o1, o2, o3, o4, o5, o6, some (.own (T.length + 2)), o8, o9, some (mS o), o11] (dS D (T ++ [(true, Mo.lst (L.map mS))])) =
      .nx [o0, o1, o2, o3, o4, o5, o6, some (.own (T.length + 2)), o8, o9, some (mS o), o11] (dS D (T ++ [(true, Mo.lst ((addW L o).map mS))])) := by
  have h16 : sizeLine = 16777216 := PySem.sizeLine_eq
  have k1 := (Q.shaped_strs (ls := L) (fun l hl c hc => lets_lt ((of_wordB (hw l hl)).2.2 c hc))).1
  have k2 : SeqAt.shaped (.str (Q.st o)) = true := Q.ok_st ho
  walk_at "mm"
  rw [Q.any_strs]
  unfold addW
  by_cases h : o ∈ L
  · simp only [decide_eq_true h, Bool.not_true, if_pos h]
    walk_at "mm"
  · simp only [decide_eq_false h, Bool.not_false, if_neg h]
    walk_at "mm"
    rw [List.map_append]
    rfl
/-- one of three words -/
theorem one_word {d i w : Nat} {wd : List Nat} {r : Nat} (hd : d ∈ lets) (hw : wd.length = 7) (g3 : ∀ d ∈ wd, d ∈ lets) (hr : r ≤ 7) (b1 : w < 3) :
    ∃ o, atI [mS [d], mS (Q.cutL wd none (some (r : Nat)) ++ [d] ++ Q.cutL wd (some (r : Nat)) none), mS (Q.cutL (wd ++ [d]) none (some ((i : Int) % 8 + 1)))] (w : Int) = some (mS o) ∧ wordB o = true := by
  obtain ⟨y, hy, e⟩ := Q.atI_mem (xs := [mS [d], mS (Q.cutL wd none (some (r : Nat)) ++ [d] ++ Q.cutL wd (some (r : Nat)) none), mS (Q.cutL (wd ++ [d]) none (some ((i : Int) % 8 + 1)))]) (i := (w : Int)) (by omega) (by simp only [List.length_cons, List.length_nil]; omega)
  simp only [List.mem_cons, List.not_mem_nil, or_false] at hy
  rcases hy with rfl | rfl | rfl
  · exact ⟨_, e, wordB_of (by simp) (by simp) (by simpa using hd)⟩
  · refine ⟨_, e, wordB_of ?_ ?_ ?_⟩
    · rw [List.length_append, List.length_append, List.length_singleton]; omega
    · rw [Q.cutL_to, Q.cutL_from, List.length_append, List.length_append, List.length_singleton, List.length_take, List.length_drop]; omega
    · intro x hx
      rcases List.mem_append.mp hx with hx | hx
      · rcases List.mem_append.mp hx with hx | hx
        · exact g3 x (mem_cut hx)
        · rw [List.mem_singleton.mp hx]; exact hd
      · exact g3 x (mem_cut hx)
  · refine ⟨_, e, ?_⟩
    rw [show (i : Int) % 8 + 1 = ((i % 8 + 1 : Nat) : Int) by omega, Q.cutL_to]
    refine wordB_of ?_ ?_ ?_
    · rw [List.length_take, List.length_append, List.length_singleton]; omega
    · rw [List.length_take]; omega
    · intro x hx
      rcases List.mem_append.mp (List.mem_of_mem_take hx) with hx | hx
      · exact g3 x hx
      · rw [List.mem_singleton.mp hx]; exact hd
theorem words1 {s0 s1 : Option Mv} {D : Dk} {r1 r2 r4 : Nat} {T : Sg} {wd : List Nat} (hw : wd.length = 7) (g3 : ∀ d ∈ wd, d ∈ lets) (b1 : r1 < 3) (b4 : r4 < 7) :
    ∃ (L : List (List Nat)) (o8 o9 o10 : Option Mv), mLoop (mgName 8) b_L_words_1 (rangeL 0 24)
              [s0, s1, some (mS lets), some (.d (.int (r1 : Nat))), some (.d (.int (r2 : Nat))), some (mS wd), some (.d (.int (r4 : Nat))), some (.own (T.length + 2)), none, none, none, none]
              (dS D (T ++ [(true, Mo.lst [])])) =
      .nx [s0, s1, some (mS lets), some (.d (.int (r1 : Nat))), some (.d (.int (r2 : Nat))), some (mS wd), some (.d (.int (r4 : Nat))), some (.own (T.length + 2)), o8, o9, o10, none]
        (dS D (T ++ [(true, Mo.lst (L.map mS))])) ∧ L.length ≤ 24 ∧ L.Nodup ∧ ∀ l ∈ L, wordB l = true := by
  have h16 : sizeLine = 16777216 := PySem.sizeLine_eq
  have hs : lets.length ≤ sizeLine := by rw [lets_len]; omega
  obtain ⟨ρ2, S2, e, L, o8, o9, o10, rfl, rfl, h1, h2, h3⟩ := Q.loop_range (n := 24) (g := mgName 8) (P := fun i ρ S => ∃ (L : List (List Nat)) (o8 o9 o10 : Option Mv), ρ = [s0, s1, some (mS lets), some (.d (.int (r1 : Nat))), some (.d (.int (r2 : Nat))), some (mS wd), some (.d (.int (r4 : Nat))), some (.own (T.length + 2)), o8, o9, o10, none] ∧ S = dS D (T ++ [(true, Mo.lst (L.map mS))]) ∧ L.length ≤ i ∧ L.Nodup ∧ ∀ l ∈ L, wordB l = true) (b := b_L_words_1)
    (by
      rintro i hi ρ S ⟨L, o8, o9, o10, rfl, rfl, h1, h2, h3⟩
      obtain ⟨d, ed, hd⟩ := let_at (i := ((r2 : Int) + 5 * (i : Int)) % 26) (by omega) (by omega)
      obtain ⟨o, f, ho⟩ := one_word (i := i) hd hw g3 (by omega : r4 ≤ 7) b1
      refine ⟨_, [s0, s1, some (mS lets), some (.d (.int (r1 : Nat))), some (.d (.int (r2 : Nat))), some (mS wd), some (.d (.int (r4 : Nat))), some (.own (T.length + 2)), some (.d (.int (i : Nat))), some (mS [d]), some (mS o), none], dS D (T ++ [(true, Mo.lst ((addW L o).map mS))]), rfl, ?_, addW L o, _, _, _, rfl, rfl, Nat.le_trans addW_len (by omega), addW_nodup h2, fun l hl => ?_⟩
      · unfold b_L_words_1
        refine seq_to (ρ1 := [s0, s1, some (mS lets), some (.d (.int (r1 : Nat))), some (.d (.int (r2 : Nat))), some (mS wd), some (.d (.int (r4 : Nat))), some (.own (T.length + 2)), some (.d (.int (i : Nat))), some (mS [d]), o10, none]) (S1 := dS D (T ++ [(true, Mo.lst (L.map mS))])) ?_ (seq_to (ρ1 := [s0, s1, some (mS lets), some (.d (.int (r1 : Nat))), some (.d (.int (r2 : Nat))), some (mS wd), some (.d (.int (r4 : Nat))), some (.own (T.length + 2)), some (.d (.int (i : Nat))), some (mS [d]), some (mS o), none]) (S1 := dS D (T ++ [(true, Mo.lst (L.map mS))])) ?_ (add_word (by omega) h3 fun c hc => lets_lt ((of_wordB ho).2.2 c hc)))
        · walk_at "mm"
          rw [ed]
          walk_at "mm"
        · have t1 : (Q.cutL wd none (some (r4 : Int))).length ≤ wd.length := Q.cutL_len
          have t2 : (Q.cutL wd (some (r4 : Int)) none).length ≤ wd.length := Q.cutL_len
          walk_at "mm"
          rw [f]
          walk_at "mm"
      · rcases addW_mem.mp hl with hl | rfl
        · exact h3 l hl
        · exact ho)
    ⟨[], none, none, none, rfl, rfl, by simp, by simp, by simp⟩
  exact ⟨L, o8, o9, o10, e, h1, h2, h3⟩
theorem nodup_len {α : Type} [DecidableEq α] : ∀ {A B : List α}, A.Nodup → (∀ a ∈ A, a ∈ B) → A.length ≤ B.length
  | [], _, _, _ => Nat.zero_le _
  | a :: A, B, h, s => by
    have h1 := List.nodup_cons.mp h
    have hm := s a (List.mem_cons_self ..)
    have ih := nodup_len (A := A) (B := B.erase a) h1.2 fun x hx => (List.mem_erase_of_ne (fun e => h1.1 (by subst e; exact hx))).mpr (s x (List.mem_cons_of_mem _ hx))
    rw [List.length_erase_of_mem hm] at ih
    have : 0 < B.length := List.length_pos_of_mem hm
    rw [List.length_cons]; omega
def qq (j : Nat) : List Nat := [113, 113, 97 + j]
theorem words2 {s0 s1 s3 s4 s5 s6 o8 o9 o10 : Option Mv} {D : Dk} {T : Sg} {L0 : List (List Nat)} (h1 : L0.length ≤ 24) (h2 : L0.Nodup) (h3 : ∀ l ∈ L0, wordB l = true) :
    ∃ (L : List (List Nat)) (p8 p9 p10 : Option Mv), mLoop (mgName 8) b_L_words_2 (rangeL 0 14) [s0, s1, some (mS lets), s3, s4, s5, s6, some (.own (T.length + 2)), o8, o9, o10, none] (dS D (T ++ [(true, Mo.lst (L0.map mS))])) =
      .nx [s0, s1, some (mS lets), s3, s4, s5, s6, some (.own (T.length + 2)), p8, p9, p10, none] (dS D (T ++ [(true, Mo.lst (L.map mS))])) ∧ 14 ≤ L.length ∧ L.length ≤ 38 ∧ L.Nodup ∧ ∀ l ∈ L, wordB l = true := by
  have h16 : sizeLine = 16777216 := PySem.sizeLine_eq
  have hs : lets.length ≤ sizeLine := by rw [lets_len]; omega
  obtain ⟨ρ2, S2, e, L, o8, o9, o10, rfl, rfl, k1, k2, k3, k4⟩ := Q.loop_range (n := 14) (g := mgName 8) (ρ := [s0, s1, some (mS lets), s3, s4, s5, s6, some (.own (T.length + 2)), o8, o9, o10, none]) (S := dS D (T ++ [(true, Mo.lst (L0.map mS))])) (P := fun i ρ S => ∃ (L : List (List Nat)) (o8 o9 o10 : Option Mv), ρ = [s0, s1, some (mS lets), s3, s4, s5, s6, some (.own (T.length + 2)), o8, o9, o10, none] ∧ S = dS D (T ++ [(true, Mo.lst (L.map mS))]) ∧ L.length ≤ 24 + i ∧ L.Nodup ∧ (∀ l ∈ L, wordB l = true) ∧ ∀ j < i, qq j ∈ L) (b := b_L_words_2)
    (by
      rintro i hi ρ S ⟨L, o8, o9, o10, rfl, rfl, h1, h2, h3, h4⟩
      have ed : atI lets (i : Int) = some (97 + i) := by
        rw [Q.atI_nat (by omega) (by rw [lets_len]; omega), Int.toNat_natCast]
        have : ∀ j < 14, lets[j]? = some (97 + j) := by decide
        exact this i hi
      have hq : wordB (qq i) = true := by
        have : ∀ j < 14, wordB (qq j) = true := by decide
        exact this i hi
      refine ⟨_, [s0, s1, some (mS lets), s3, s4, s5, s6, some (.own (T.length + 2)), some (.d (.int (i : Nat))), o9, some (mS (qq i)), none], dS D (T ++ [(true, Mo.lst ((addW L (qq i)).map mS))]), rfl, ?_, addW L (qq i), _, _, _, rfl, rfl, Nat.le_trans addW_len (by omega), addW_nodup h2, fun l hl => ?_, fun j hj => ?_⟩
      · unfold b_L_words_2
        refine seq_to (ρ1 := [s0, s1, some (mS lets), s3, s4, s5, s6, some (.own (T.length + 2)), some (.d (.int (i : Nat))), o9, some (mS (qq i)), none]) (S1 := dS D (T ++ [(true, Mo.lst (L.map mS))])) ?_ (add_word (by omega) h3 fun c hc => lets_lt ((of_wordB hq).2.2 c hc))
        walk_at "mm"
        rw [ed, show Str.ofString "qq" = Q.st [113, 113] from by decide +kernel]
        walk_at "mm"
        rfl
      · rcases addW_mem.mp hl with hl | rfl
        · exact h3 l hl
        · exact hq
      · by_cases e : j = i
        · subst e; exact addW_mem.mpr (.inr rfl)
        · exact addW_mem.mpr (.inl (h4 j (by omega))))
    ⟨L0, _, _, _, rfl, rfl, by omega, h2, h3, fun j hj => absurd hj (Nat.not_lt_zero _)⟩
  refine ⟨L, o8, o9, o10, e, ?_, k1, k2, k3⟩
  have := nodup_len (A := (List.range 14).map qq) (B := L) (by decide +kernel) fun a ha => by
    obtain ⟨j, hj, rfl⟩ := List.mem_map.mp ha
    exact k4 j (List.mem_range.mp hj)
  simpa using this
theorem erase_map {α β : Type} {f : α → β} : ∀ (l : List α) (n : Nat), (l.map f).eraseIdx n = (l.eraseIdx n).map f
  | [], _ => rfl
  | _ :: _, 0 => rfl
  | a :: l, n + 1 => by
    show f a :: (l.map f).eraseIdx n = _
    rw [erase_map l n]; rfl
theorem erase_perm {α : Type} : ∀ (l : List α) (n : Nat) (h : n < l.length), (l[n] :: l.eraseIdx n).Perm l
  | _ :: _, 0, _ => List.Perm.refl _
  | a :: l, n + 1, h => by
    have h' : n < l.length := by simpa using h
    exact (List.Perm.swap a l[n] (l.eraseIdx n)).trans ((erase_perm l n h').cons a)
/-- words taken out of the list, one by one -/
theorem words3 {s1 s2 s3 s4 s5 s6 s7 s9 s10 : Option Mv} {D : Dk} {T : Sg} {u : Bool × Mo} {A : List (List Nat)} {m : Nat} (hm : m ≤ A.length) (hA : A.length ≤ 1000) (hn : A.Nodup) (hw : ∀ l ∈ A, wordB l = true) :
    ∃ (ws left : List (List Nat)) (E : Dk), lcLoop (mgName 8) mYes e_L_words_2
        [some (.ref 1), s1, s2, s3, s4, s5, s6, s7, none, s9, s10, some (.own (T.length + 3))] (rangeL 0 m) [] (dS D (T ++ [u, (true, Mo.lst (A.map mS))])) = .ok (ws.map mS) (dS E (T ++ [u, (true, Mo.lst (left.map mS))])) ∧
      ws.length = m ∧ ws.Nodup ∧ ∀ l ∈ ws, wordB l = true := by
  have h16 : sizeLine = 16777216 := PySem.sizeLine_eq
  have hr : (rangeL 0 m).length = m := by simp [rangeL]
  obtain ⟨zs, S2, e, hz, ws, left, E, rfl, rfl, hp⟩ := Q.lc_acc (ρ := [some (.ref 1), s1, s2, s3, s4, s5, s6, s7, none, s9, s10, some (.own (T.length + 3))]) (g := mgName 8) (te := e_L_words_2) (N := m) (xs := rangeL 0 m) (acc := []) (S := dS D (T ++ [u, (true, Mo.lst (A.map mS))]))
    (P := fun acc S => ∃ (ws left : List (List Nat)) (E : Dk), acc = ws.map mS ∧ S = dS E (T ++ [u, (true, Mo.lst (left.map mS))]) ∧ (ws ++ left).Perm A)
    (by
      rintro x - acc S hacc ⟨ws, left, E, rfl, rfl, hp⟩
      have hlen := hp.length_eq
      rw [List.length_append] at hlen
      rw [List.length_map] at hacc
      have hr : (dr E left.length).val < left.length := by omega
      refine ⟨[some (.ref 1), s1, s2, s3, s4, s5, s6, s7, some x, s9, s10, some (.own (T.length + 3))], mS left[(dr E left.length).val], dS (nx E left.length) (T ++ [u, (true, Mo.lst ((left.eraseIdx (dr E left.length).val).map mS))]), rfl, ?_, rfl, ws ++ [left[(dr E left.length).val]], left.eraseIdx (dr E left.length).val, nx E left.length, by rw [List.map_append]; rfl, rfl, ?_⟩
      · unfold e_L_words_2
        walk_at "mm"
        rw [Q.popK_some (y := mS left[(dr E left.length).val]) (by omega) (by rw [List.length_map]; omega) (by rw [List.length_map]; omega) (by rw [Int.toNat_natCast, List.getElem?_map, List.getElem?_eq_getElem hr]; rfl), Int.toNat_natCast]
        walk_at "mm"
        rw [erase_map]
      · rw [List.append_assoc]
        exact (List.Perm.append_left ws (erase_perm left _ hr)).trans hp)
    ⟨[], A, D, rfl, rfl, by simp⟩ (by rw [hr, List.length_nil, Nat.zero_add]) (by omega)
  have hnd := (hp.nodup_iff.mpr hn)
  exact ⟨ws, left, E, e, by simpa using hz, (List.nodup_append.mp hnd).1, fun l h => hw l (hp.mem_iff.mp (List.mem_append_left _ h))⟩
theorem spec_words (m : Nat) (hm : m ≤ 12) (D : Dk) (T : Sg) :
    ∃ (ws : List (List Nat)) (E : Dk), f_L_words [.ref 1, .d (.int (m : Nat))] (dS D T) = .ok (.d (.list (ws.map fun l => .str (Q.st l)))) (dS E T) ∧ ws.length = m ∧ ws.Nodup ∧ (∀ l ∈ ws, wordB l = true) := by
  have h16 : sizeLine = 16777216 := PySem.sizeLine_eq
  have hs : lets.length ≤ sizeLine := by rw [lets_len]; omega
  obtain ⟨wd, D1, e3, w3, g3⟩ := draw_lets (o1 := some (.d (.int (m : Nat)))) (o3 := some (.d (.int ((dr D 3).val : Nat)))) (o4 := some (.d (.int ((dr (nx D 3) 26).val : Nat)))) (o5 := none) (o6 := none) (o7 := none) (o8 := none) (o9 := none) (o10 := none) (o11 := none) (D := nx (nx D 3) 26) (T := T) (js := rangeL 0 7) (by decide)
  have hw : wd.length = 7 := w3
  obtain ⟨L, o8, o9, o10, e5, k1, k2, k3⟩ := words1 (s0 := some (.ref 1)) (s1 := some (.d (.int (m : Nat)))) (D := nx D1 7) (T := T) (r1 := (dr D 3).val) (r2 := (dr (nx D 3) 26).val) (r4 := (dr D1 7).val) hw g3 (by omega) (by omega)
  obtain ⟨L2, p8, p9, p10, e6, j0, j1, j2, j3⟩ := words2 (s0 := some (.ref 1)) (s1 := some (.d (.int (m : Nat)))) (s3 := some (.d (.int ((dr D 3).val : Nat)))) (s4 := some (.d (.int ((dr (nx D 3) 26).val : Nat)))) (s5 := some (mS wd)) (s6 := some (.d (.int ((dr D1 7).val : Nat)))) (o8 := o8) (o9 := o9) (o10 := o10) (D := nx D1 7) (T := T) k1 k2 k3
  obtain ⟨ws, left, E, e7, i1, i2, i3⟩ := words3 (s1 := some (.d (.int (m : Nat)))) (s2 := some (mS lets)) (s3 := some (.d (.int ((dr D 3).val : Nat)))) (s4 := some (.d (.int ((dr (nx D 3) 26).val : Nat)))) (s5 := some (mS wd)) (s6 := some (.d (.int ((dr D1 7).val : Nat)))) (s7 := some (.own (T.length + 2))) (s9 := p9) (s10 := p10) (D := nx D1 7) (T := T) (u := (true, Mo.lst (L2.map mS))) (A := L2.take (m + 2)) (m := m) (by rw [List.length_take]; omega) (by rw [List.length_take]; omega) (j2.sublist (List.take_sublist _ _)) (fun l h => j3 l (List.mem_of_mem_take h))
  refine ⟨ws, E, ?_, i1, i2, i3⟩
  unfold f_L_words m_L_words
  walk_at "mm"
  rw [lit_l, e3]
  walk_at "mm"
  rw [lit_e]
  walk_at "mm"
  rw [e5]
  walk_at "mm"
  rw [e6]
  walk_at "mm"
  rw [show (m : Int) + 2 = ((m + 2 : Nat) : Int) by omega, Q.cutL_to, e7]
  walk_at "mm"

end Law
end
section
set_option Elab.async false
set_option linter.all false
set_option maxRecDepth 100000
set_option maxHeartbeats 4000000
set_option autoImplicit false
namespace Law
open PySem PySem.Spec PyProof.Rows L2 MM
local macro_rules | `(tactic| walk_at "mm") => `(tactic| simp (disch := first | assumption | omega | exact MM.Q.shaped_int | exact MM.Q.shaped_nil | exact MM.Q.shaped_ints | exact MM.Q.shaped_bool | (refine of_eq_true (eq_true ?_); first | with_unfolding_all rfl | (simp only [MM.Q.free_d, MM.Q.free_ref, MM.Q.free_adr, MM.Q.frees_nil, MM.Q.frees_cons, MM.Q.frees_map, Bool.and_true, Bool.true_and]; done)) | (simp only [List.length_cons, List.length_nil, List.append_nil, List.map_cons, List.map_nil, List.length_append, List.length_map, List.length_reverse, MM.Q.dI_len, PySem.sizeLine_eq]; omega)) only [MM.Q.bind_ok, MM.Q.bind_exc, MM.Q.go_ok, MM.Q.go_exc, MM.Q.nox_ok, MM.Q.vr_some, MM.Q.ev_var, MM.Q.ev_c, MM.Q.ev_k, MM.Q.frzO_some, MM.Q.tupO_some, MM.Q.tupO_none, MM.Q.bear_val, MM.Q.bear_frz, MM.Q.bear_ref, MM.Q.bear_own, MM.Q.bear_tup, MM.Q.allD_nil, MM.Q.allD_cons, MM.Q.allD_map, MM.Q.bearO_some, MM.Q.ev_bin, MM.Q.ev_bin1, MM.Q.ev_bin2, MM.Q.add_int, MM.Q.sub_int, MM.Q.mul_int, MM.Q.mod_int, MM.Q.fdiv_int, MM.Q.pow_int, MM.Q.intB_int, MM.Q.datO_f, MM.Q.datO_t, MM.Q.data_d, MM.Q.data_ref, MM.Q.data_own, MM.Q.ev_eq_r, MM.Q.ev_eq_o, MM.Q.ev_eq_l, MM.Q.ev_eq_t, MM.Q.ev_eq_i, MM.Q.ev_eq_b, MM.Q.ev_eq_n, MM.Q.ev_eq_st, MM.Q.ev_eq_sf, MM.Q.eqO_some, MM.Q.eqC_t, MM.Q.eqC_f, MM.Q.eqv_nil, MM.Q.eqv_int, MM.Q.eqv_bool, MM.Q.in_str, MM.Q.notIn_str, MM.Q.is_bool, MM.Q.isnot_bool, MM.Q.tst_bool, MM.Q.ev_tst, MM.Q.ev_truth, MM.Q.ev_tru, MM.Q.truO_some, MM.Q.truth_bool, MM.Q.truth_int, MM.Q.truth_none, MM.Q.truth_list, MM.Q.truth_tup, MM.Q.ev_andB, MM.Q.ev_orB, MM.Q.ev_notB, MM.Q.andB_t, MM.Q.andB_f, MM.Q.orB_t, MM.Q.orB_f, MM.Q.ev_notB1, MM.Q.ev_and, MM.Q.ev_or, MM.Q.and_tB, MM.Q.and_fB, MM.Q.or_tB, MM.Q.or_fB, MM.Q.ev_not, MM.Q.ev_not1, MM.Q.notO_some, MM.Q.ev_ifE, MM.Q.ifE_t, MM.Q.ifE_f, MM.Q.ev_nil, MM.Q.ev_cons, MM.Q.ev_cons1, MM.Q.ev_cons2, MM.Q.ev_disp, MM.Q.disp_lst, MM.Q.disp_tup, MM.Q.frees_nil, MM.Q.frees_cons, MM.Q.free_d, MM.Q.free_ref, MM.Q.free_adr, MM.Q.dI_snoc, MM.Q.dI_len, MM.Q.allD_dI, MM.Q.dI_nil, MM.Q.allD_dIs, MM.Q.frees_map, MM.Q.ev_cb, MM.Q.ev_cb1, MM.Q.ev_call, MM.Q.ev_call1, MM.Q.ev_call0, MM.Q.ev_callK, MM.Q.ev_callK1, MM.Q.ev_callK2, MM.Q.ldd_some, MM.Q.laid_nil, MM.Q.laid_k, MM.Q.laid_p, MM.Q.ixO_some, MM.Q.ev_ix, MM.Q.ev_ix1, MM.Q.ev_ix2, MM.Q.ix_list, MM.Q.ix_tup, MM.Q.refS_lst, MM.Q.refS_tup, MM.Q.seq_ref, MM.Q.seq_own, MM.Q.seq_list, MM.Q.seq_tup, MM.Q.ixK_some, MM.Q.ix_ref, MM.Q.ix_own, MM.Q.listO_f, MM.Q.ev_list, MM.Q.at0, MM.Q.at1, MM.Q.at2, MM.Q.at3, MM.Q.at4, MM.Q.ixN0, MM.Q.ixN1, MM.Q.ixN2, MM.Q.ev_oN, MM.Q.ev_oS, MM.Q.oS_int, MM.Q.ev_sl, MM.Q.ev_sl1, MM.Q.ev_sl2, MM.Q.ev_sl3, MM.Q.ev_rev, MM.Q.rev_list, MM.Q.ev_bm, MM.Q.ev_bm1, MM.Q.cBM_t, MM.Q.ev_bm2, MM.Q.buO_some, MM.Q.ev_bu, MM.Q.ev_bu1, MM.Q.cBU_t, MM.Q.ev_bu2, MM.Q.ty_str, MM.Q.tyO_some, MM.Q.ty_ref, MM.Q.ty_own, MM.Q.ty_list, MM.Q.beq_ll, MM.Q.beq_ss, MM.Q.celO_some, MM.Q.cell_ref, MM.Q.cell_own, MM.Q.ev_append, MM.Q.appO_some, MM.Q.ev_extend, MM.Q.extO_some, MM.Q.ev_pop, MM.Q.popO_snoc, MM.Q.ev_ind, MM.Q.ev_ind1, MM.Q.ev_neg, MM.Q.neg_int, MM.Q.ev_iter, MM.Q.ev_it, MM.Q.itO_some, MM.Q.items_list, MM.Q.items_tup, MM.Q.ev_rg1, MM.Q.rg1_int, MM.Q.ev_lc, MM.Q.ev_lc1, MM.Q.ev_lc2, MM.Q.wipe_nil, MM.Q.wipe_cons, MM.Q.ev_seq, MM.Q.seq_nx, MM.Q.seq_rt, MM.Q.seq_exc, MM.Q.seq_bk, MM.Q.seq_ct, MM.Q.ev_asg, MM.Q.ev_asg1, MM.Q.nxO_some, MM.Q.mg_name, MM.Q.mg_nil, MM.Q.mg_consN, MM.Q.mg_tup, MM.Q.ev_expr, MM.Q.ev_expr1, MM.Q.ev_ret, MM.Q.ev_ret1, MM.Q.ev_retN, MM.Q.ev_skip, MM.Q.ev_brk, MM.Q.ev_cnt, MM.Q.ev_if, MM.Q.if_t, MM.Q.if_f, MM.Q.ev_for, MM.Q.ev_for1, MM.Q.ev_fz, MM.Q.fz_own, MM.Q.fzC_some, MM.Q.fzO_some, MM.Q.fz_d, MM.Q.fz_ref, MM.Q.stO_some, MM.Q.ev_st, MM.Q.ev_st1, MM.Q.ev_st2, MM.Q.ev_st3, MM.Q.ev_setIx, MM.Q.siO_some, MM.Q.ev_par, MM.Q.ev_par1, MM.Q.nones_zero, MM.Q.nones_succ, MM.Q.begin_eq,  MM.Q.ev_fn, MM.Q.fin_rt, MM.Q.fin_ref, MM.Q.fin_nx, MM.Q.trim_same, MM.Q.trim_app, MM.Q.ev_len, MM.Q.ev_lst_l, MM.Q.ev_lst_t, MM.Q.ev_lst_r, MM.Q.ev_lst_o, MM.Q.ev_l1, MM.Q.ev_sum, MM.Q.ev_all, MM.Q.ev_any, MM.Q.ev_isi, MM.Q.kind_str, MM.Q.kind_int, MM.Q.kind_bool, MM.Q.kind_none, MM.Q.kind_dict, MM.Q.kind_list, MM.Q.kind_tup, MM.Q.kit_ss, MM.Q.kit_is, MM.Q.kit_bs, MM.Q.kit_ns, MM.Q.kit_ds, MM.Q.kit_ls, MM.Q.kit_ts, MM.Q.ev_repr, MM.Q.ev_join, MM.Q.lenO_some, MM.Q.len_list, MM.Q.len_tup, MM.Q.lnO_some, MM.Q.len_ref, MM.Q.len_own, MM.Q.lisO_some, MM.Q.l1O_some, MM.Q.ints_map, MM.Q.bools_map, MM.Q.strs_map, MM.Q.isiO_some, MM.Q.jnO_some, MM.Q.len_st, MM.Q.add_st, MM.Q.mul_st, MM.Q.ix_st, MM.Q.sl_st, MM.Q.rev_st, MM.Q.eqv_st, MM.Q.st_dec, MM.Q.divmod_int, MM.Q.items_st, MM.Q.allD_mapf, MM.Q.strs_mapf, MM.Q.ints_mapf, MM.Q.bools_mapf, MM.Q.join_ones_some, MM.Q.sl_own, MM.Q.sl_ref, MM.Q.sl_list, MM.Q.slO_some, MM.Q.add_own, MM.Q.add_ref, MM.Q.add_list, MM.Q.catO_some, MM.Q.cutL_map, MM.Q.mg_tupL, MM.Q.ev_ch, MM.Q.ev_ch1, MM.Q.ev_ch2, MM.Q.ch_t, MM.Q.ch_f, MM.Q.ev_ch3, MM.Q.starts_str, MM.Q.ends_str, MM.Q.upper_str, MM.Q.part_str, MM.Q.ev_fmt, MM.Q.ev_fmtR, MM.Q.fmt_st, MM.Q.fmt_int, MM.Q.ev_js_nil, MM.Q.ev_js_cons, MM.Q.ev_js1, MM.Q.ev_js2, MM.Q.jsF_some, MM.Q.js_st, MM.Q.ev_pr_nil, MM.Q.ev_pr_cons, MM.Q.ev_pr1, MM.Q.ev_pr2, MM.Q.ev_pr3, MM.Q.ev_dct, MM.Q.ev_dct1, MM.Q.keys_one, MM.Q.dctF_one, MM.Q.tup_list, MM.Q.tup_tup, MM.Q.tup_st, MM.Q.lst_st, MM.Q.mul_list, MM.Q.mul_tup, MM.Q.ev_popK, MM.Q.in_own, MM.Q.in_ref, MM.Q.in_list, MM.Q.inO_t, MM.Q.inO_f, MM.Q.b2i_t, MM.Q.b2i_f, MM.Q.int_int, MM.Q.int_bool, MM.Q.ev_rg2, MM.Q.rg2_int, MM.Q.ev_en, MM.Q.en_list, MM.Q.en_tup, MM.Q.en_st, MM.Q.ev_sortSc, MM.Q.ev_lenSc, MM.Q.ev_sc1, MM.Q.ev_scL1, MM.Q.ev_sc2, MM.Q.ev_scL2, 
  List.map_cons, List.map_nil, List.length_cons, List.length_nil, List.append_nil, List.nil_append, List.cons_append, List.getElem?_cons_zero, List.getElem?_cons_succ, List.set_cons_zero, List.set_cons_succ, Bool.and_true, Bool.true_and, Option.bind_some, Option.map_some, Nat.reduceAdd, Nat.reduceSub, Nat.add_sub_cancel, Nat.sub_self])
--- imports sig good
/-! names, by mark and label -/
def nameL (m w : List Nat) : List Nat := 35 :: (m ++ 45 :: (w ++ [59]))
theorem nameL_len {m w : List Nat} : (nameL m w).length = m.length + w.length + 3 := by simp [nameL]; omega
theorem nameL_good {m w : List Nat} (hm : markB m = true) (hw : wordB w = true) : Gd 19 (nameL m w) := by
  have a := mark_good hm
  have b := word_good hw
  exact ((Gd.one (c := 35) (by decide)).app (a.app ((Gd.one (c := 45) (by decide)).app (b.app (Gd.one (c := 59) (by decide)))))).mono (by decide)
theorem nameL_mark {m w : List Nat} (h : m.length = 8) : Q.cutL (nameL m w) (some 1) (some 9) = m := by
  rw [show (some (1 : Int)) = some ((1 : Nat) : Int) from rfl, show (some (9 : Int)) = some ((9 : Nat) : Int) from rfl, Q.cutL_ab (by rw [nameL_len]; omega) (by decide)]
  show List.take 8 (m ++ _) = m
  rw [← h, List.take_left]
theorem nameL_label {m w : List Nat} (h : m.length = 8) : Q.cutL (nameL m w) (some 10) (some (-1)) = w := by
  rw [show (some (10 : Int)) = some ((10 : Nat) : Int) from rfl, Q.cutL_neg1 (by rw [nameL_len]; omega), nameL_len]
  have e : List.drop 10 (nameL m w) = w ++ [59] := by
    show List.drop 9 (m ++ 45 :: (w ++ [59])) = _
    rw [List.drop_append, h, List.drop_of_length_le (by omega)]; rfl
  rw [e, show m.length + w.length + 3 - 1 - 10 = w.length by omega, List.take_left]

end Law
end
section
set_option Elab.async false
set_option linter.all false
set_option maxRecDepth 100000
set_option maxHeartbeats 4000000
set_option autoImplicit false
namespace Law
open PySem PySem.Spec PyProof.Rows L2 MM
local macro_rules | `(tactic| walk_at "mm") => `(tactic| simp (disch := first | assumption | omega | exact MM.Q.shaped_int | exact MM.Q.shaped_nil | exact MM.Q.shaped_ints | exact MM.Q.shaped_bool | (refine of_eq_true (eq_true ?_); first | with_unfolding_all rfl | (simp only [MM.Q.free_d, MM.Q.free_ref, MM.Q.free_adr, MM.Q.frees_nil, MM.Q.frees_cons, MM.Q.frees_map, Bool.and_true, Bool.true_and]; done)) | (simp only [List.length_cons, List.length_nil, List.append_nil, List.map_cons, List.map_nil, List.length_append, List.length_map, List.length_reverse, MM.Q.dI_len, PySem.sizeLine_eq]; omega)) only [MM.Q.bind_ok, MM.Q.bind_exc, MM.Q.go_ok, MM.Q.go_exc, MM.Q.nox_ok, MM.Q.vr_some, MM.Q.ev_var, MM.Q.ev_c, MM.Q.ev_k, MM.Q.frzO_some, MM.Q.tupO_some, MM.Q.tupO_none, MM.Q.bear_val, MM.Q.bear_frz, MM.Q.bear_ref, MM.Q.bear_own, MM.Q.bear_tup, MM.Q.allD_nil, MM.Q.allD_cons, MM.Q.allD_map, MM.Q.bearO_some, MM.Q.ev_bin, MM.Q.ev_bin1, MM.Q.ev_bin2, MM.Q.add_int, MM.Q.sub_int, MM.Q.mul_int, MM.Q.mod_int, MM.Q.fdiv_int, MM.Q.pow_int, MM.Q.intB_int, MM.Q.datO_f, MM.Q.datO_t, MM.Q.data_d, MM.Q.data_ref, MM.Q.data_own, MM.Q.ev_eq_r, MM.Q.ev_eq_o, MM.Q.ev_eq_l, MM.Q.ev_eq_t, MM.Q.ev_eq_i, MM.Q.ev_eq_b, MM.Q.ev_eq_n, MM.Q.ev_eq_st, MM.Q.ev_eq_sf, MM.Q.eqO_some, MM.Q.eqC_t, MM.Q.eqC_f, MM.Q.eqv_nil, MM.Q.eqv_int, MM.Q.eqv_bool, MM.Q.in_str, MM.Q.notIn_str, MM.Q.is_bool, MM.Q.isnot_bool, MM.Q.tst_bool, MM.Q.ev_tst, MM.Q.ev_truth, MM.Q.ev_tru, MM.Q.truO_some, MM.Q.truth_bool, MM.Q.truth_int, MM.Q.truth_none, MM.Q.truth_list, MM.Q.truth_tup, MM.Q.ev_andB, MM.Q.ev_orB, MM.Q.ev_notB, MM.Q.andB_t, MM.Q.andB_f, MM.Q.orB_t, MM.Q.orB_f, MM.Q.ev_notB1, MM.Q.ev_and, MM.Q.ev_or, MM.Q.and_tB, MM.Q.and_fB, MM.Q.or_tB, MM.Q.or_fB, MM.Q.ev_not, MM.Q.ev_not1, MM.Q.notO_some, MM.Q.ev_ifE, MM.Q.ifE_t, MM.Q.ifE_f, MM.Q.ev_nil, MM.Q.ev_cons, MM.Q.ev_cons1, MM.Q.ev_cons2, MM.Q.ev_disp, MM.Q.disp_lst, MM.Q.disp_tup, MM.Q.frees_nil, MM.Q.frees_cons, MM.Q.free_d, MM.Q.free_ref, MM.Q.free_adr, MM.Q.dI_snoc, MM.Q.dI_len, MM.Q.allD_dI, MM.Q.dI_nil, MM.Q.allD_dIs, MM.Q.frees_map, MM.Q.ev_cb, MM.Q.ev_cb1, MM.Q.ev_call, MM.Q.ev_call1, MM.Q.ev_call0, MM.Q.ev_callK, MM.Q.ev_callK1, MM.Q.ev_callK2, MM.Q.ldd_some, MM.Q.laid_nil, MM.Q.laid_k, MM.Q.laid_p, MM.Q.ixO_some, MM.Q.ev_ix, MM.Q.ev_ix1, MM.Q.ev_ix2, MM.Q.ix_list, MM.Q.ix_tup, MM.Q.refS_lst, MM.Q.refS_tup, MM.Q.seq_ref, MM.Q.seq_own, MM.Q.seq_list, MM.Q.seq_tup, MM.Q.ixK_some, MM.Q.ix_ref, MM.Q.ix_own, MM.Q.listO_f, MM.Q.ev_list, MM.Q.at0, MM.Q.at1, MM.Q.at2, MM.Q.at3, MM.Q.at4, MM.Q.ixN0, MM.Q.ixN1, MM.Q.ixN2, MM.Q.ev_oN, MM.Q.ev_oS, MM.Q.oS_int, MM.Q.ev_sl, MM.Q.ev_sl1, MM.Q.ev_sl2, MM.Q.ev_sl3, MM.Q.ev_rev, MM.Q.rev_list, MM.Q.ev_bm, MM.Q.ev_bm1, MM.Q.cBM_t, MM.Q.ev_bm2, MM.Q.buO_some, MM.Q.ev_bu, MM.Q.ev_bu1, MM.Q.cBU_t, MM.Q.ev_bu2, MM.Q.ty_str, MM.Q.tyO_some, MM.Q.ty_ref, MM.Q.ty_own, MM.Q.ty_list, MM.Q.beq_ll, MM.Q.beq_ss, MM.Q.celO_some, MM.Q.cell_ref, MM.Q.cell_own, MM.Q.ev_append, MM.Q.appO_some, MM.Q.ev_extend, MM.Q.extO_some, MM.Q.ev_pop, MM.Q.popO_snoc, MM.Q.ev_ind, MM.Q.ev_ind1, MM.Q.ev_neg, MM.Q.neg_int, MM.Q.ev_iter, MM.Q.ev_it, MM.Q.itO_some, MM.Q.items_list, MM.Q.items_tup, MM.Q.ev_rg1, MM.Q.rg1_int, MM.Q.ev_lc, MM.Q.ev_lc1, MM.Q.ev_lc2, MM.Q.wipe_nil, MM.Q.wipe_cons, MM.Q.ev_seq, MM.Q.seq_nx, MM.Q.seq_rt, MM.Q.seq_exc, MM.Q.seq_bk, MM.Q.seq_ct, MM.Q.ev_asg, MM.Q.ev_asg1, MM.Q.nxO_some, MM.Q.mg_name, MM.Q.mg_nil, MM.Q.mg_consN, MM.Q.mg_tup, MM.Q.ev_expr, MM.Q.ev_expr1, MM.Q.ev_ret, MM.Q.ev_ret1, MM.Q.ev_retN, MM.Q.ev_skip, MM.Q.ev_brk, MM.Q.ev_cnt, MM.Q.ev_if, MM.Q.if_t, MM.Q.if_f, MM.Q.ev_for, MM.Q.ev_for1, MM.Q.ev_fz, MM.Q.fz_own, MM.Q.fzC_some, MM.Q.fzO_some, MM.Q.fz_d, MM.Q.fz_ref, MM.Q.stO_some, MM.Q.ev_st, MM.Q.ev_st1, MM.Q.ev_st2, MM.Q.ev_st3, MM.Q.ev_setIx, MM.Q.siO_some, MM.Q.ev_par, MM.Q.ev_par1, MM.Q.nones_zero, MM.Q.nones_succ, MM.Q.begin_eq,  MM.Q.ev_fn, MM.Q.fin_rt, MM.Q.fin_ref, MM.Q.fin_nx, MM.Q.trim_same, MM.Q.trim_app, MM.Q.ev_len, MM.Q.ev_lst_l, MM.Q.ev_lst_t, MM.Q.ev_lst_r, MM.Q.ev_lst_o, MM.Q.ev_l1, MM.Q.ev_sum, MM.Q.ev_all, MM.Q.ev_any, MM.Q.ev_isi, MM.Q.kind_str, MM.Q.kind_int, MM.Q.kind_bool, MM.Q.kind_none, MM.Q.kind_dict, MM.Q.kind_list, MM.Q.kind_tup, MM.Q.kit_ss, MM.Q.kit_is, MM.Q.kit_bs, MM.Q.kit_ns, MM.Q.kit_ds, MM.Q.kit_ls, MM.Q.kit_ts, MM.Q.ev_repr, MM.Q.ev_join, MM.Q.lenO_some, MM.Q.len_list, MM.Q.len_tup, MM.Q.lnO_some, MM.Q.len_ref, MM.Q.len_own, MM.Q.lisO_some, MM.Q.l1O_some, MM.Q.ints_map, MM.Q.bools_map, MM.Q.strs_map, MM.Q.isiO_some, MM.Q.jnO_some, MM.Q.len_st, MM.Q.add_st, MM.Q.mul_st, MM.Q.ix_st, MM.Q.sl_st, MM.Q.rev_st, MM.Q.eqv_st, MM.Q.st_dec, MM.Q.divmod_int, MM.Q.items_st, MM.Q.allD_mapf, MM.Q.strs_mapf, MM.Q.ints_mapf, MM.Q.bools_mapf, MM.Q.join_ones_some, MM.Q.sl_own, MM.Q.sl_ref, MM.Q.sl_list, MM.Q.slO_some, MM.Q.add_own, MM.Q.add_ref, MM.Q.add_list, MM.Q.catO_some, MM.Q.cutL_map, MM.Q.mg_tupL, MM.Q.ev_ch, MM.Q.ev_ch1, MM.Q.ev_ch2, MM.Q.ch_t, MM.Q.ch_f, MM.Q.ev_ch3, MM.Q.starts_str, MM.Q.ends_str, MM.Q.upper_str, MM.Q.part_str, MM.Q.ev_fmt, MM.Q.ev_fmtR, MM.Q.fmt_st, MM.Q.fmt_int, MM.Q.ev_js_nil, MM.Q.ev_js_cons, MM.Q.ev_js1, MM.Q.ev_js2, MM.Q.jsF_some, MM.Q.js_st, MM.Q.ev_pr_nil, MM.Q.ev_pr_cons, MM.Q.ev_pr1, MM.Q.ev_pr2, MM.Q.ev_pr3, MM.Q.ev_dct, MM.Q.ev_dct1, MM.Q.keys_one, MM.Q.dctF_one, MM.Q.tup_list, MM.Q.tup_tup, MM.Q.tup_st, MM.Q.lst_st, MM.Q.mul_list, MM.Q.mul_tup, MM.Q.ev_popK, MM.Q.in_own, MM.Q.in_ref, MM.Q.in_list, MM.Q.inO_t, MM.Q.inO_f, MM.Q.b2i_t, MM.Q.b2i_f, MM.Q.int_int, MM.Q.int_bool, MM.Q.ev_rg2, MM.Q.rg2_int, MM.Q.ev_en, MM.Q.en_list, MM.Q.en_tup, MM.Q.en_st, MM.Q.ev_sortSc, MM.Q.ev_lenSc, MM.Q.ev_sc1, MM.Q.ev_scL1, MM.Q.ev_sc2, MM.Q.ev_scL2, 
  List.map_cons, List.map_nil, List.length_cons, List.length_nil, List.append_nil, List.nil_append, List.cons_append, List.getElem?_cons_zero, List.getElem?_cons_succ, List.set_cons_zero, List.set_cons_succ, Bool.and_true, Bool.true_and, Option.bind_some, Option.map_some, Nat.reduceAdd, Nat.reduceSub, Nat.add_sub_cancel, Nat.sub_self])
--- imports nm
theorem spec_L_called {S : Sg} {m w : List Nat} (hm : m.length ≤ 100000) (hw : w.length ≤ 100000) : f_L_called [mS m, mS w] S = .ok (mS (nameL m w)) S := by
  have h16 : sizeLine = 16777216 := PySem.sizeLine_eq
  unfold f_L_called m_L_called nameL
  rw [show Str.ofString "#" = Q.st [35] by decide +kernel, show Str.ofString "-" = Q.st [45] by decide +kernel, show Str.ofString ";" = Q.st [59] by decide +kernel]
  walk_at "mm"
  simp only [List.append_assoc, List.cons_append, List.nil_append]

end Law
end
section
set_option Elab.async false
set_option linter.all false
set_option maxRecDepth 100000
set_option maxHeartbeats 4000000
set_option autoImplicit false
namespace Law
open PySem PySem.Spec PyProof.Rows L2 MM
local macro_rules | `(tactic| walk_at "mm") => `(tactic| simp (disch := first | assumption | omega | exact MM.Q.shaped_int | exact MM.Q.shaped_nil | exact MM.Q.shaped_ints | exact MM.Q.shaped_bool | (refine of_eq_true (eq_true ?_); first | with_unfolding_all rfl | (simp only [MM.Q.free_d, MM.Q.free_ref, MM.Q.free_adr, MM.Q.frees_nil, MM.Q.frees_cons, MM.Q.frees_map, Bool.and_true, Bool.true_and]; done)) | (simp only [List.length_cons, List.length_nil, List.append_nil, List.map_cons, List.map_nil, List.length_append, List.length_map, List.length_reverse, MM.Q.dI_len, PySem.sizeLine_eq]; omega)) only [MM.Q.bind_ok, MM.Q.bind_exc, MM.Q.go_ok, MM.Q.go_exc, MM.Q.nox_ok, MM.Q.vr_some, MM.Q.ev_var, MM.Q.ev_c, MM.Q.ev_k, MM.Q.frzO_some, MM.Q.tupO_some, MM.Q.tupO_none, MM.Q.bear_val, MM.Q.bear_frz, MM.Q.bear_ref, MM.Q.bear_own, MM.Q.bear_tup, MM.Q.allD_nil, MM.Q.allD_cons, MM.Q.allD_map, MM.Q.bearO_some, MM.Q.ev_bin, MM.Q.ev_bin1, MM.Q.ev_bin2, MM.Q.add_int, MM.Q.sub_int, MM.Q.mul_int, MM.Q.mod_int, MM.Q.fdiv_int, MM.Q.pow_int, MM.Q.intB_int, MM.Q.datO_f, MM.Q.datO_t, MM.Q.data_d, MM.Q.data_ref, MM.Q.data_own, MM.Q.ev_eq_r, MM.Q.ev_eq_o, MM.Q.ev_eq_l, MM.Q.ev_eq_t, MM.Q.ev_eq_i, MM.Q.ev_eq_b, MM.Q.ev_eq_n, MM.Q.ev_eq_st, MM.Q.ev_eq_sf, MM.Q.eqO_some, MM.Q.eqC_t, MM.Q.eqC_f, MM.Q.eqv_nil, MM.Q.eqv_int, MM.Q.eqv_bool, MM.Q.in_str, MM.Q.notIn_str, MM.Q.is_bool, MM.Q.isnot_bool, MM.Q.tst_bool, MM.Q.ev_tst, MM.Q.ev_truth, MM.Q.ev_tru, MM.Q.truO_some, MM.Q.truth_bool, MM.Q.truth_int, MM.Q.truth_none, MM.Q.truth_list, MM.Q.truth_tup, MM.Q.ev_andB, MM.Q.ev_orB, MM.Q.ev_notB, MM.Q.andB_t, MM.Q.andB_f, MM.Q.orB_t, MM.Q.orB_f, MM.Q.ev_notB1, MM.Q.ev_and, MM.Q.ev_or, MM.Q.and_tB, MM.Q.and_fB, MM.Q.or_tB, MM.Q.or_fB, MM.Q.ev_not, MM.Q.ev_not1, MM.Q.notO_some, MM.Q.ev_ifE, MM.Q.ifE_t, MM.Q.ifE_f, MM.Q.ev_nil, MM.Q.ev_cons, MM.Q.ev_cons1, MM.Q.ev_cons2, MM.Q.ev_disp, MM.Q.disp_lst, MM.Q.disp_tup, MM.Q.frees_nil, MM.Q.frees_cons, MM.Q.free_d, MM.Q.free_ref, MM.Q.free_adr, MM.Q.dI_snoc, MM.Q.dI_len, MM.Q.allD_dI, MM.Q.dI_nil, MM.Q.allD_dIs, MM.Q.frees_map, MM.Q.ev_cb, MM.Q.ev_cb1, MM.Q.ev_call, MM.Q.ev_call1, MM.Q.ev_call0, MM.Q.ev_callK, MM.Q.ev_callK1, MM.Q.ev_callK2, MM.Q.ldd_some, MM.Q.laid_nil, MM.Q.laid_k, MM.Q.laid_p, MM.Q.ixO_some, MM.Q.ev_ix, MM.Q.ev_ix1, MM.Q.ev_ix2, MM.Q.ix_list, MM.Q.ix_tup, MM.Q.refS_lst, MM.Q.refS_tup, MM.Q.seq_ref, MM.Q.seq_own, MM.Q.seq_list, MM.Q.seq_tup, MM.Q.ixK_some, MM.Q.ix_ref, MM.Q.ix_own, MM.Q.listO_f, MM.Q.ev_list, MM.Q.at0, MM.Q.at1, MM.Q.at2, MM.Q.at3, MM.Q.at4, MM.Q.ixN0, MM.Q.ixN1, MM.Q.ixN2, MM.Q.ev_oN, MM.Q.ev_oS, MM.Q.oS_int, MM.Q.ev_sl, MM.Q.ev_sl1, MM.Q.ev_sl2, MM.Q.ev_sl3, MM.Q.ev_rev, MM.Q.rev_list, MM.Q.ev_bm, MM.Q.ev_bm1, MM.Q.cBM_t, MM.Q.ev_bm2, MM.Q.buO_some, MM.Q.ev_bu, MM.Q.ev_bu1, MM.Q.cBU_t, MM.Q.ev_bu2, MM.Q.ty_str, MM.Q.tyO_some, MM.Q.ty_ref, MM.Q.ty_own, MM.Q.ty_list, MM.Q.beq_ll, MM.Q.beq_ss, MM.Q.celO_some, MM.Q.cell_ref, MM.Q.cell_own, MM.Q.ev_append, MM.Q.appO_some, MM.Q.ev_extend, MM.Q.extO_some, MM.Q.ev_pop, MM.Q.popO_snoc, MM.Q.ev_ind, MM.Q.ev_ind1, MM.Q.ev_neg, MM.Q.neg_int, MM.Q.ev_iter, MM.Q.ev_it, MM.Q.itO_some, MM.Q.items_list, MM.Q.items_tup, MM.Q.ev_rg1, MM.Q.rg1_int, MM.Q.ev_lc, MM.Q.ev_lc1, MM.Q.ev_lc2, MM.Q.wipe_nil, MM.Q.wipe_cons, MM.Q.ev_seq, MM.Q.seq_nx, MM.Q.seq_rt, MM.Q.seq_exc, MM.Q.seq_bk, MM.Q.seq_ct, MM.Q.ev_asg, MM.Q.ev_asg1, MM.Q.nxO_some, MM.Q.mg_name, MM.Q.mg_nil, MM.Q.mg_consN, MM.Q.mg_tup, MM.Q.ev_expr, MM.Q.ev_expr1, MM.Q.ev_ret, MM.Q.ev_ret1, MM.Q.ev_retN, MM.Q.ev_skip, MM.Q.ev_brk, MM.Q.ev_cnt, MM.Q.ev_if, MM.Q.if_t, MM.Q.if_f, MM.Q.ev_for, MM.Q.ev_for1, MM.Q.ev_fz, MM.Q.fz_own, MM.Q.fzC_some, MM.Q.fzO_some, MM.Q.fz_d, MM.Q.fz_ref, MM.Q.stO_some, MM.Q.ev_st, MM.Q.ev_st1, MM.Q.ev_st2, MM.Q.ev_st3, MM.Q.ev_setIx, MM.Q.siO_some, MM.Q.ev_par, MM.Q.ev_par1, MM.Q.nones_zero, MM.Q.nones_succ, MM.Q.begin_eq,  MM.Q.ev_fn, MM.Q.fin_rt, MM.Q.fin_ref, MM.Q.fin_nx, MM.Q.trim_same, MM.Q.trim_app, MM.Q.ev_len, MM.Q.ev_lst_l, MM.Q.ev_lst_t, MM.Q.ev_lst_r, MM.Q.ev_lst_o, MM.Q.ev_l1, MM.Q.ev_sum, MM.Q.ev_all, MM.Q.ev_any, MM.Q.ev_isi, MM.Q.kind_str, MM.Q.kind_int, MM.Q.kind_bool, MM.Q.kind_none, MM.Q.kind_dict, MM.Q.kind_list, MM.Q.kind_tup, MM.Q.kit_ss, MM.Q.kit_is, MM.Q.kit_bs, MM.Q.kit_ns, MM.Q.kit_ds, MM.Q.kit_ls, MM.Q.kit_ts, MM.Q.ev_repr, MM.Q.ev_join, MM.Q.lenO_some, MM.Q.len_list, MM.Q.len_tup, MM.Q.lnO_some, MM.Q.len_ref, MM.Q.len_own, MM.Q.lisO_some, MM.Q.l1O_some, MM.Q.ints_map, MM.Q.bools_map, MM.Q.strs_map, MM.Q.isiO_some, MM.Q.jnO_some, MM.Q.len_st, MM.Q.add_st, MM.Q.mul_st, MM.Q.ix_st, MM.Q.sl_st, MM.Q.rev_st, MM.Q.eqv_st, MM.Q.st_dec, MM.Q.divmod_int, MM.Q.items_st, MM.Q.allD_mapf, MM.Q.strs_mapf, MM.Q.ints_mapf, MM.Q.bools_mapf, MM.Q.join_ones_some, MM.Q.sl_own, MM.Q.sl_ref, MM.Q.sl_list, MM.Q.slO_some, MM.Q.add_own, MM.Q.add_ref, MM.Q.add_list, MM.Q.catO_some, MM.Q.cutL_map, MM.Q.mg_tupL, MM.Q.ev_ch, MM.Q.ev_ch1, MM.Q.ev_ch2, MM.Q.ch_t, MM.Q.ch_f, MM.Q.ev_ch3, MM.Q.starts_str, MM.Q.ends_str, MM.Q.upper_str, MM.Q.part_str, MM.Q.ev_fmt, MM.Q.ev_fmtR, MM.Q.fmt_st, MM.Q.fmt_int, MM.Q.ev_js_nil, MM.Q.ev_js_cons, MM.Q.ev_js1, MM.Q.ev_js2, MM.Q.jsF_some, MM.Q.js_st, MM.Q.ev_pr_nil, MM.Q.ev_pr_cons, MM.Q.ev_pr1, MM.Q.ev_pr2, MM.Q.ev_pr3, MM.Q.ev_dct, MM.Q.ev_dct1, MM.Q.keys_one, MM.Q.dctF_one, MM.Q.tup_list, MM.Q.tup_tup, MM.Q.tup_st, MM.Q.lst_st, MM.Q.mul_list, MM.Q.mul_tup, MM.Q.ev_popK, MM.Q.in_own, MM.Q.in_ref, MM.Q.in_list, MM.Q.inO_t, MM.Q.inO_f, MM.Q.b2i_t, MM.Q.b2i_f, MM.Q.int_int, MM.Q.int_bool, MM.Q.ev_rg2, MM.Q.rg2_int, MM.Q.ev_en, MM.Q.en_list, MM.Q.en_tup, MM.Q.en_st, MM.Q.ev_sortSc, MM.Q.ev_lenSc, MM.Q.ev_sc1, MM.Q.ev_scL1, MM.Q.ev_sc2, MM.Q.ev_scL2, 
  List.map_cons, List.map_nil, List.length_cons, List.length_nil, List.append_nil, List.nil_append, List.cons_append, List.getElem?_cons_zero, List.getElem?_cons_succ, List.set_cons_zero, List.set_cons_succ, Bool.and_true, Bool.true_and, Option.bind_some, Option.map_some, Nat.reduceAdd, Nat.reduceSub, Nat.add_sub_cancel, Nat.sub_self])
--- imports 
/-- a walk whose turns change nothing -/
theorem loop_chk {i : Nat} {b : MS} {S : Sg} {R : Rho} : ∀ {xs : List Mv} {o : Option Mv}, (∀ x ∈ xs, b (R.set i (some x)) S = .nx (R.set i (some x)) S) → ∃ o', mLoop (mgName i) b xs (R.set i o) S = .nx (R.set i o') S
  | [], o, _ => ⟨o, rfl⟩
  | x :: xs, o, h => by
    obtain ⟨o', e⟩ := loop_chk (o := some x) (fun y hy => h y (List.mem_cons_of_mem _ hy))
    refine ⟨o', ?_⟩
    rw [Q.loop_on (ρ1 := R.set i (some x)) (by show some ((R.set i o).set i (some x)) = _; rw [List.set_set]) (h x (List.mem_cons_self ..)), e]
theorem allD_app {xs : List PyData} {r : List Mv} : allD (xs.map .d ++ r) = (allD r).map (xs ++ ·) := by
  induction xs with
  | nil => simp only [List.map_nil, List.nil_append]; cases allD r <;> rfl
  | cons x t ih =>
    show allD (.d x :: (t.map Mv.d ++ r)) = _
    rw [Q.allD_cons, ih]
    cases allD r <;> rfl

end Law
end
section
set_option Elab.async false
set_option linter.all false
set_option maxRecDepth 100000
set_option maxHeartbeats 4000000
set_option autoImplicit false
namespace Law
open PySem PySem.Spec PyProof.Rows L2 MM
local macro_rules | `(tactic| walk_at "mm") => `(tactic| simp (disch := first | assumption | omega | exact MM.Q.shaped_int | exact MM.Q.shaped_nil | exact MM.Q.shaped_ints | exact MM.Q.shaped_bool | (refine of_eq_true (eq_true ?_); first | with_unfolding_all rfl | (simp only [MM.Q.free_d, MM.Q.free_ref, MM.Q.free_adr, MM.Q.frees_nil, MM.Q.frees_cons, MM.Q.frees_map, Bool.and_true, Bool.true_and]; done)) | (simp only [List.length_cons, List.length_nil, List.append_nil, List.map_cons, List.map_nil, List.length_append, List.length_map, List.length_reverse, MM.Q.dI_len, PySem.sizeLine_eq]; omega)) only [MM.Q.bind_ok, MM.Q.bind_exc, MM.Q.go_ok, MM.Q.go_exc, MM.Q.nox_ok, MM.Q.vr_some, MM.Q.ev_var, MM.Q.ev_c, MM.Q.ev_k, MM.Q.frzO_some, MM.Q.tupO_some, MM.Q.tupO_none, MM.Q.bear_val, MM.Q.bear_frz, MM.Q.bear_ref, MM.Q.bear_own, MM.Q.bear_tup, MM.Q.allD_nil, MM.Q.allD_cons, MM.Q.allD_map, MM.Q.bearO_some, MM.Q.ev_bin, MM.Q.ev_bin1, MM.Q.ev_bin2, MM.Q.add_int, MM.Q.sub_int, MM.Q.mul_int, MM.Q.mod_int, MM.Q.fdiv_int, MM.Q.pow_int, MM.Q.intB_int, MM.Q.datO_f, MM.Q.datO_t, MM.Q.data_d, MM.Q.data_ref, MM.Q.data_own, MM.Q.ev_eq_r, MM.Q.ev_eq_o, MM.Q.ev_eq_l, MM.Q.ev_eq_t, MM.Q.ev_eq_i, MM.Q.ev_eq_b, MM.Q.ev_eq_n, MM.Q.ev_eq_st, MM.Q.ev_eq_sf, MM.Q.eqO_some, MM.Q.eqC_t, MM.Q.eqC_f, MM.Q.eqv_nil, MM.Q.eqv_int, MM.Q.eqv_bool, MM.Q.in_str, MM.Q.notIn_str, MM.Q.is_bool, MM.Q.isnot_bool, MM.Q.tst_bool, MM.Q.ev_tst, MM.Q.ev_truth, MM.Q.ev_tru, MM.Q.truO_some, MM.Q.truth_bool, MM.Q.truth_int, MM.Q.truth_none, MM.Q.truth_list, MM.Q.truth_tup, MM.Q.ev_andB, MM.Q.ev_orB, MM.Q.ev_notB, MM.Q.andB_t, MM.Q.andB_f, MM.Q.orB_t, MM.Q.orB_f, MM.Q.ev_notB1, MM.Q.ev_and, MM.Q.ev_or, MM.Q.and_tB, MM.Q.and_fB, MM.Q.or_tB, MM.Q.or_fB, MM.Q.ev_not, MM.Q.ev_not1, MM.Q.notO_some, MM.Q.ev_ifE, MM.Q.ifE_t, MM.Q.ifE_f, MM.Q.ev_nil, MM.Q.ev_cons, MM.Q.ev_cons1, MM.Q.ev_cons2, MM.Q.ev_disp, MM.Q.disp_lst, MM.Q.disp_tup, MM.Q.frees_nil, MM.Q.frees_cons, MM.Q.free_d, MM.Q.free_ref, MM.Q.free_adr, MM.Q.dI_snoc, MM.Q.dI_len, MM.Q.allD_dI, MM.Q.dI_nil, MM.Q.allD_dIs, MM.Q.frees_map, MM.Q.ev_cb, MM.Q.ev_cb1, MM.Q.ev_call, MM.Q.ev_call1, MM.Q.ev_call0, MM.Q.ev_callK, MM.Q.ev_callK1, MM.Q.ev_callK2, MM.Q.ldd_some, MM.Q.laid_nil, MM.Q.laid_k, MM.Q.laid_p, MM.Q.ixO_some, MM.Q.ev_ix, MM.Q.ev_ix1, MM.Q.ev_ix2, MM.Q.ix_list, MM.Q.ix_tup, MM.Q.refS_lst, MM.Q.refS_tup, MM.Q.seq_ref, MM.Q.seq_own, MM.Q.seq_list, MM.Q.seq_tup, MM.Q.ixK_some, MM.Q.ix_ref, MM.Q.ix_own, MM.Q.listO_f, MM.Q.ev_list, MM.Q.at0, MM.Q.at1, MM.Q.at2, MM.Q.at3, MM.Q.at4, MM.Q.ixN0, MM.Q.ixN1, MM.Q.ixN2, MM.Q.ev_oN, MM.Q.ev_oS, MM.Q.oS_int, MM.Q.ev_sl, MM.Q.ev_sl1, MM.Q.ev_sl2, MM.Q.ev_sl3, MM.Q.ev_rev, MM.Q.rev_list, MM.Q.ev_bm, MM.Q.ev_bm1, MM.Q.cBM_t, MM.Q.ev_bm2, MM.Q.buO_some, MM.Q.ev_bu, MM.Q.ev_bu1, MM.Q.cBU_t, MM.Q.ev_bu2, MM.Q.ty_str, MM.Q.tyO_some, MM.Q.ty_ref, MM.Q.ty_own, MM.Q.ty_list, MM.Q.beq_ll, MM.Q.beq_ss, MM.Q.celO_some, MM.Q.cell_ref, MM.Q.cell_own, MM.Q.ev_append, MM.Q.appO_some, MM.Q.ev_extend, MM.Q.extO_some, MM.Q.ev_pop, MM.Q.popO_snoc, MM.Q.ev_ind, MM.Q.ev_ind1, MM.Q.ev_neg, MM.Q.neg_int, MM.Q.ev_iter, MM.Q.ev_it, MM.Q.itO_some, MM.Q.items_list, MM.Q.items_tup, MM.Q.ev_rg1, MM.Q.rg1_int, MM.Q.ev_lc, MM.Q.ev_lc1, MM.Q.ev_lc2, MM.Q.wipe_nil, MM.Q.wipe_cons, MM.Q.ev_seq, MM.Q.seq_nx, MM.Q.seq_rt, MM.Q.seq_exc, MM.Q.seq_bk, MM.Q.seq_ct, MM.Q.ev_asg, MM.Q.ev_asg1, MM.Q.nxO_some, MM.Q.mg_name, MM.Q.mg_nil, MM.Q.mg_consN, MM.Q.mg_tup, MM.Q.ev_expr, MM.Q.ev_expr1, MM.Q.ev_ret, MM.Q.ev_ret1, MM.Q.ev_retN, MM.Q.ev_skip, MM.Q.ev_brk, MM.Q.ev_cnt, MM.Q.ev_if, MM.Q.if_t, MM.Q.if_f, MM.Q.ev_for, MM.Q.ev_for1, MM.Q.ev_fz, MM.Q.fz_own, MM.Q.fzC_some, MM.Q.fzO_some, MM.Q.fz_d, MM.Q.fz_ref, MM.Q.stO_some, MM.Q.ev_st, MM.Q.ev_st1, MM.Q.ev_st2, MM.Q.ev_st3, MM.Q.ev_setIx, MM.Q.siO_some, MM.Q.ev_par, MM.Q.ev_par1, MM.Q.nones_zero, MM.Q.nones_succ, MM.Q.begin_eq, draw_int, dS_len, dS_app, dS_get, dS_set, sg_app, sg_app2, ag0, ag1, ag2, ag3, as0, as1, as2, as3, al1, al2, al3, dS_trim, dS_trim0, dS_trimc, Int.reduceToNat, Int.toNat_natCast, List.length_map, allD_app, decide_true, decide_false, Bool.not_true, Bool.not_false, Bool.false_and, Bool.and_false, Bool.true_or, Bool.or_true, Bool.or_false, Bool.false_or, ne_eq, not_true_eq_false, not_false_eq_true, beq_self_eq_true,  MM.Q.ev_fn, MM.Q.fin_rt, MM.Q.fin_ref, MM.Q.fin_nx, MM.Q.trim_same, MM.Q.trim_app, MM.Q.ev_len, MM.Q.ev_lst_l, MM.Q.ev_lst_t, MM.Q.ev_lst_r, MM.Q.ev_lst_o, MM.Q.ev_l1, MM.Q.ev_sum, MM.Q.ev_all, MM.Q.ev_any, MM.Q.ev_isi, MM.Q.kind_str, MM.Q.kind_int, MM.Q.kind_bool, MM.Q.kind_none, MM.Q.kind_dict, MM.Q.kind_list, MM.Q.kind_tup, MM.Q.kit_ss, MM.Q.kit_is, MM.Q.kit_bs, MM.Q.kit_ns, MM.Q.kit_ds, MM.Q.kit_ls, MM.Q.kit_ts, MM.Q.ev_repr, MM.Q.ev_join, MM.Q.lenO_some, MM.Q.len_list, MM.Q.len_tup, MM.Q.lnO_some, MM.Q.len_ref, MM.Q.len_own, MM.Q.lisO_some, MM.Q.l1O_some, MM.Q.ints_map, MM.Q.bools_map, MM.Q.strs_map, MM.Q.isiO_some, MM.Q.jnO_some, MM.Q.len_st, MM.Q.add_st, MM.Q.mul_st, MM.Q.ix_st, MM.Q.sl_st, MM.Q.rev_st, MM.Q.eqv_st, MM.Q.st_dec, MM.Q.divmod_int, MM.Q.items_st, MM.Q.allD_mapf, MM.Q.strs_mapf, MM.Q.ints_mapf, MM.Q.bools_mapf, MM.Q.join_ones_some, MM.Q.sl_own, MM.Q.sl_ref, MM.Q.sl_list, MM.Q.slO_some, MM.Q.add_own, MM.Q.add_ref, MM.Q.add_list, MM.Q.catO_some, MM.Q.cutL_map, MM.Q.mg_tupL, MM.Q.ev_ch, MM.Q.ev_ch1, MM.Q.ev_ch2, MM.Q.ch_t, MM.Q.ch_f, MM.Q.ev_ch3, MM.Q.starts_str, MM.Q.ends_str, MM.Q.upper_str, MM.Q.part_str, MM.Q.ev_fmt, MM.Q.ev_fmtR, MM.Q.fmt_st, MM.Q.fmt_int, MM.Q.ev_js_nil, MM.Q.ev_js_cons, MM.Q.ev_js1, MM.Q.ev_js2, MM.Q.jsF_some, MM.Q.js_st, MM.Q.ev_pr_nil, MM.Q.ev_pr_cons, MM.Q.ev_pr1, MM.Q.ev_pr2, MM.Q.ev_pr3, MM.Q.ev_dct, MM.Q.ev_dct1, MM.Q.keys_one, MM.Q.dctF_one, MM.Q.tup_list, MM.Q.tup_tup, MM.Q.tup_st, MM.Q.lst_st, MM.Q.mul_list, MM.Q.mul_tup, MM.Q.ev_popK, MM.Q.in_own, MM.Q.in_ref, MM.Q.in_list, MM.Q.inO_t, MM.Q.inO_f, MM.Q.b2i_t, MM.Q.b2i_f, MM.Q.int_int, MM.Q.int_bool, MM.Q.ev_rg2, MM.Q.rg2_int, MM.Q.ev_en, MM.Q.en_list, MM.Q.en_tup, MM.Q.en_st, MM.Q.ev_sortSc, MM.Q.ev_lenSc, MM.Q.ev_sc1, MM.Q.ev_scL1, MM.Q.ev_sc2, MM.Q.ev_scL2, 
  List.map_cons, List.map_nil, List.length_cons, List.length_nil, List.append_nil, List.nil_append, List.cons_append, List.getElem?_cons_zero, List.getElem?_cons_succ, List.set_cons_zero, List.set_cons_succ, Bool.and_true, Bool.true_and, Option.bind_some, Option.map_some, Nat.reduceAdd, Nat.reduceSub, Nat.add_sub_cancel, Nat.sub_self])
--- imports +b k03piece lmarks words lcalled gen
theorem join_some {ms : List (List Nat)} {n : Nat} (h : ∀ m ∈ ms, m.length ≤ n) (hn : ms.length * n ≤ 1000000) : Q.joinO (Q.st []) (some (ms.map Q.st)) = some (.val (.d (.str (Q.st ms.flatten)))) ∧ ms.flatten.length ≤ ms.length * n := by
  have hs : (ms.map List.length).sum ≤ ms.length * n := by
    clear hn
    induction ms with
    | nil => simp
    | cons a r ih =>
      have h1 := h a (List.mem_cons_self ..)
      have h2 := ih fun m hm => h m (List.mem_cons_of_mem _ hm)
      rw [List.map_cons, List.sum_cons, List.length_cons, Nat.succ_mul]; omega
  have hl : ((ms.map Q.st).map (·.length)).sum = (ms.map List.length).sum := by rw [List.map_map]; exact congrArg List.sum (List.map_congr_left fun m _ => Q.st_len)
  constructor
  · rw [Q.joinO_some (by rw [hl, Q.st_len]; simp only [List.length_nil, Nat.mul_zero]; omega), Q.join_nil_st]
  · rw [List.length_flatten]; exact hs
theorem strs_mS {ms : List (List Nat)} : strsM (ms.map mS) = some (ms.map Q.st) := by
  induction ms with
  | nil => rfl
  | cons a r ih => show (strsM (r.map mS)).map (Q.st a :: ·) = _; rw [ih]; rfl
/-- the pool -/
theorem pool_names {m1 m2 m3 w : List Nat} (h1 : markB m1 = true) (h2 : markB m2 = true) (h3 : markB m3 = true) (hw : wordB w = true) : ∀ l ∈ [nameL m1 w, nameL m2 w, nameL m3 w], Gd 19 l ∧ 1 ≤ l.length := by
  intro l hl
  simp only [List.mem_cons, List.not_mem_nil, or_false] at hl
  rcases hl with rfl | rfl | rfl
  · exact ⟨nameL_good h1 hw, by rw [nameL_len]; omega⟩
  · exact ⟨nameL_good h2 hw, by rw [nameL_len]; omega⟩
  · exact ⟨nameL_good h3 hw, by rw [nameL_len]; omega⟩
theorem draw_pieces {L : List (List Nat)} (h0 : 0 < L.length) (h1 : L.length ≤ 1000) (hL : ∀ l ∈ L, Gd 19 l ∧ 1 ≤ l.length) {o0 o2 o3 o4 o5 o6 o8 o9 o10 o11 o12 o13 : Option Mv} {D : Dk} {T : Sg} {js : List Mv} (hj : js.length ≤ 1000) :
    ∃ (ms : List (List Nat)) (E : Dk), lcLoop (mgName 13) mYes e_law_3 [o0, some (.ref 1), o2, o3, o4, o5, o6, some (.d (.list (L.map pS))), o8, o9, o10, o11, o12, o13] js [] (dS D T) = .ok (ms.map mS) (dS E T) ∧ ms.length = js.length ∧ ∀ m ∈ ms, Gd 20 m := by
  have h16 : sizeLine = 16777216 := PySem.sizeLine_eq
  obtain ⟨ys, E, e, e1, e2⟩ := @lc_dk T [o0, some (.ref 1), o2, o3, o4, o5, o6, some (.d (.list (L.map pS))), o8, o9, o10, o11, o12, o13] (mgName 13) e_law_3 (fun y => ∃ m, Gd 20 m ∧ y = mS m) js D (fun x _ D => by
    obtain ⟨m, E, e, hm⟩ := spec_L_piece h0 h1 hL D T
    refine ⟨[o0, some (.ref 1), o2, o3, o4, o5, o6, some (.d (.list (L.map pS))), o8, o9, o10, o11, o12, some x], mS m, E, rfl, ?_, rfl, m, hm, rfl⟩
    unfold e_law_3
    walk_at "mm"
    rw [e]) (by omega)
  obtain ⟨ms, rfl, hm⟩ := Q.pick_all (p := Gd 20) (h := mS) e2
  exact ⟨ms, E, e, by simpa using e1, hm⟩
theorem names1 {o0 o2 o3 o4 o6 o7 o8 o9 o10 o11 o12 o13 : Option Mv} {S : Sg} {m1 m2 m3 w : List Nat} (h1 : markB m1 = true) (h2 : markB m2 = true) (h3 : markB m3 = true) (hw : wordB w = true) :
    lcLoop (mgName 12) mYes e_law_1 [o0, some (.ref 1), o2, o3, o4, some (mS w), o6, o7, o8, o9, o10, o11, o12, o13] [mS m1, mS m2, mS m3] [] S = .ok ([nameL m1 w, nameL m2 w, nameL m3 w].map mS) S := by
  have hL := (of_wordB hw).2.1
  exact @Q.lc_mapF [o0, some (.ref 1), o2, o3, o4, some (mS w), o6, o7, o8, o9, o10, o11, o12, o13] S (List Nat) (mgName 12) e_law_1 mS (fun m => mS (nameL m w)) [m1, m2, m3] [] (fun m hm => by
    have hm8 : m.length ≤ 100000 := by
      simp only [List.mem_cons, List.not_mem_nil, or_false] at hm
      rcases hm with rfl | rfl | rfl
      · have := (of_markB h1).1; omega
      · have := (of_markB h2).1; omega
      · have := (of_markB h3).1; omega
    refine ⟨[o0, some (.ref 1), o2, o3, o4, some (mS w), o6, o7, o8, o9, o10, o11, some (mS m), o13], rfl, ?_, rfl⟩
    unfold e_law_1
    walk_at "mm"
    rw [spec_L_called hm8 (by omega)]) (by rw [PySem.sizeLine_eq]; simp)
theorem names2 {o0 o2 o3 o4 o5 o7 o8 o9 o10 o11 o12 o13 : Option Mv} {S : Sg} {m1 m2 m3 w : List Nat} (h1 : markB m1 = true) (h2 : markB m2 = true) (h3 : markB m3 = true) (hw : wordB w = true) :
    lcLoop (mgName 12) mYes e_law_2 [o0, some (.ref 1), o2, o3, o4, o5, some (mS w), o7, o8, o9, o10, o11, o12, o13] [mS m1, mS m2, mS m3] [] S = .ok ([nameL m1 w, nameL m2 w, nameL m3 w].map mS) S := by
  have hL := (of_wordB hw).2.1
  exact @Q.lc_mapF [o0, some (.ref 1), o2, o3, o4, o5, some (mS w), o7, o8, o9, o10, o11, o12, o13] S (List Nat) (mgName 12) e_law_2 mS (fun m => mS (nameL m w)) [m1, m2, m3] [] (fun m hm => by
    have hm8 : m.length ≤ 100000 := by
      simp only [List.mem_cons, List.not_mem_nil, or_false] at hm
      rcases hm with rfl | rfl | rfl
      · have := (of_markB h1).1; omega
      · have := (of_markB h2).1; omega
      · have := (of_markB h3).1; omega
    refine ⟨[o0, some (.ref 1), o2, o3, o4, o5, some (mS w), o7, o8, o9, o10, o11, some (mS m), o13], rfl, ?_, rfl⟩
    unfold e_law_2
    walk_at "mm"
    rw [spec_L_called hm8 (by omega)]) (by rw [PySem.sizeLine_eq]; simp)
theorem turn_ok {o0 o3 o4 o5 o6 o7 o8 o9 o10 o11 o12 o13 : Option Mv} (D : Dk) {ws : List (List Nat)} (hws : ws.length ≤ 100) :
    ∃ (p4 p5 p6 p7 p8 : Option Mv) (E : Dk) (w : List Nat), b_law_1 [o0, some (.ref 1), some (.own 2), o3, o4, o5, o6, o7, o8, o9, o10, o11, o12, o13] (dS D [(true, Mo.lst (ws.map mS))]) = .nx [o0, some (.ref 1), some (.own 2), o3, p4, p5, p6, p7, p8, o9, o10, o11, o12, o13] (dS E [(true, Mo.lst ((ws ++ [w]).map mS))]) ∧ Gd 1600 w := by
  have h16 : sizeLine = 16777216 := PySem.sizeLine_eq
  generalize hT : [(true, Mo.lst (ws.map mS))] = T
  obtain ⟨vs, D1, e1, hw, -, hw2⟩ := spec_words 2 (by decide) (nx D 8) T
  obtain ⟨u, v, rfl⟩ : ∃ w z, vs = [w, z] := by
    match vs, hw with
    | [w, z], _ => exact ⟨w, z, rfl⟩
  have gu := hw2 u (by simp)
  have gv := hw2 v (by simp)
  obtain ⟨a1, a2, a3, D2, e2, ha1, ha2, ha3⟩ := spec_L_marks D1 T
  obtain ⟨b1, b2, b3, D3, e3, hb1, hb2, hb3⟩ := spec_L_marks D2 T
  have hL : ∀ l ∈ [nameL a1 u, nameL a2 u, nameL a3 u, nameL b1 v, nameL b2 v, nameL b3 v], Gd 19 l ∧ 1 ≤ l.length := by
    intro l hl
    rcases List.mem_append.mp (show l ∈ [nameL a1 u, nameL a2 u, nameL a3 u] ++ [nameL b1 v, nameL b2 v, nameL b3 v] from hl) with h | h
    · exact pool_names ha1 ha2 ha3 gu l h
    · exact pool_names hb1 hb2 hb3 gv l h
  have hr : (dr D3 15).val < 15 := by have := (dr D3 15).isLt; omega
  have hat : ∃ n : Nat, n ≤ 80 ∧ atI [Mv.d (.int ((dr D3 15).val : Nat)), .d (.int 80)] (Q.b2i ((((dr D 8).val : Nat) : Int) == 5)) = some (.d (.int (n : Nat))) := by
    cases (((dr D 8).val : Nat) : Int) == 5 with
    | false => exact ⟨(dr D3 15).val, by omega, rfl⟩
    | true => exact ⟨80, by omega, rfl⟩
  obtain ⟨n, hn, en⟩ := hat
  obtain ⟨ms, E, e5, hm1, hm2⟩ := draw_pieces (L := [nameL a1 u, nameL a2 u, nameL a3 u, nameL b1 v, nameL b2 v, nameL b3 v]) (by simp) (by simp) hL (o0 := o0) (o2 := some (.own 2)) (o3 := o3) (o4 := some (.d (.bool ((((dr D 8).val : Nat) : Int) == 5)))) (o5 := some (mS u)) (o6 := some (mS v)) (o8 := o8) (o9 := o9) (o10 := o10) (o11 := o11) (o12 := o12) (o13 := none) (D := nx D3 15) (T := T) (js := rangeL 0 n) (by simp [rangeL]; omega)
  have hmn : ms.length = n := by rw [hm1]; simp [rangeL]
  obtain ⟨j1, j2⟩ := join_some (ms := ms) (n := 20) (fun m hm => (hm2 m hm).len) (by omega)
  have hg : Gd 1600 ms.flatten := ⟨by omega, fun c hc => by
    obtain ⟨m, hm, hc⟩ := List.mem_flatten.mp hc
    exact (hm2 m hm).all c hc⟩
  refine ⟨some (.d (.bool ((((dr D 8).val : Nat) : Int) == 5))), some (mS u), some (mS v), some (.d (.list ([nameL a1 u, nameL a2 u, nameL a3 u, nameL b1 v, nameL b2 v, nameL b3 v].map pS))), some (.d (.list (ms.map pS))), E, ms.flatten, ?_, hg⟩
  unfold b_law_1
  walk_at "mm"
  rw [show f_L_words [Mv.ref 1, Mv.d (PyData.int 2)] (dS (nx D 8) T) = _ from e1]
  walk_at "mm"
  rw [e2]
  walk_at "mm"
  rw [names1 ha1 ha2 ha3 gu]
  walk_at "mm"
  rw [e3]
  walk_at "mm"
  rw [names2 hb1 hb2 hb3 gv]
  walk_at "mm"
  rw [en]
  walk_at "mm"
  simp only [List.map_cons, List.map_nil] at e5
  rw [e5]
  walk_at "mm"
  subst hT
  rw [lit_e]
  walk_at "mm"
  rw [show List.map (fun a => Q.st a) ms = ms.map Q.st from rfl, j1]
  walk_at "mm"
  rw [List.map_append]
  rfl

end Law
end
section
set_option Elab.async false
set_option linter.all false
set_option maxRecDepth 100000
set_option maxHeartbeats 4000000
set_option autoImplicit false
namespace Law
open PySem PySem.Spec PyProof.Rows L2 MM
local macro_rules | `(tactic| walk_at "mm") => `(tactic| simp (disch := first | assumption | omega | exact MM.Q.shaped_int | exact MM.Q.shaped_nil | exact MM.Q.shaped_ints | exact MM.Q.shaped_bool | (refine of_eq_true (eq_true ?_); first | with_unfolding_all rfl | (simp only [MM.Q.free_d, MM.Q.free_ref, MM.Q.free_adr, MM.Q.frees_nil, MM.Q.frees_cons, MM.Q.frees_map, Bool.and_true, Bool.true_and]; done)) | (simp only [List.length_cons, List.length_nil, List.append_nil, List.map_cons, List.map_nil, List.length_append, List.length_map, List.length_reverse, MM.Q.dI_len, PySem.sizeLine_eq]; omega)) only [MM.Q.bind_ok, MM.Q.bind_exc, MM.Q.go_ok, MM.Q.go_exc, MM.Q.nox_ok, MM.Q.vr_some, MM.Q.ev_var, MM.Q.ev_c, MM.Q.ev_k, MM.Q.frzO_some, MM.Q.tupO_some, MM.Q.tupO_none, MM.Q.bear_val, MM.Q.bear_frz, MM.Q.bear_ref, MM.Q.bear_own, MM.Q.bear_tup, MM.Q.allD_nil, MM.Q.allD_cons, MM.Q.allD_map, MM.Q.bearO_some, MM.Q.ev_bin, MM.Q.ev_bin1, MM.Q.ev_bin2, MM.Q.add_int, MM.Q.sub_int, MM.Q.mul_int, MM.Q.mod_int, MM.Q.fdiv_int, MM.Q.pow_int, MM.Q.intB_int, MM.Q.datO_f, MM.Q.datO_t, MM.Q.data_d, MM.Q.data_ref, MM.Q.data_own, MM.Q.ev_eq_r, MM.Q.ev_eq_o, MM.Q.ev_eq_l, MM.Q.ev_eq_t, MM.Q.ev_eq_i, MM.Q.ev_eq_b, MM.Q.ev_eq_n, MM.Q.ev_eq_st, MM.Q.ev_eq_sf, MM.Q.eqO_some, MM.Q.eqC_t, MM.Q.eqC_f, MM.Q.eqv_nil, MM.Q.eqv_int, MM.Q.eqv_bool, MM.Q.in_str, MM.Q.notIn_str, MM.Q.is_bool, MM.Q.isnot_bool, MM.Q.tst_bool, MM.Q.ev_tst, MM.Q.ev_truth, MM.Q.ev_tru, MM.Q.truO_some, MM.Q.truth_bool, MM.Q.truth_int, MM.Q.truth_none, MM.Q.truth_list, MM.Q.truth_tup, MM.Q.ev_andB, MM.Q.ev_orB, MM.Q.ev_notB, MM.Q.andB_t, MM.Q.andB_f, MM.Q.orB_t, MM.Q.orB_f, MM.Q.ev_notB1, MM.Q.ev_and, MM.Q.ev_or, MM.Q.and_tB, MM.Q.and_fB, MM.Q.or_tB, MM.Q.or_fB, MM.Q.ev_not, MM.Q.ev_not1, MM.Q.notO_some, MM.Q.ev_ifE, MM.Q.ifE_t, MM.Q.ifE_f, MM.Q.ev_nil, MM.Q.ev_cons, MM.Q.ev_cons1, MM.Q.ev_cons2, MM.Q.ev_disp, MM.Q.disp_lst, MM.Q.disp_tup, MM.Q.frees_nil, MM.Q.frees_cons, MM.Q.free_d, MM.Q.free_ref, MM.Q.free_adr, MM.Q.dI_snoc, MM.Q.dI_len, MM.Q.allD_dI, MM.Q.dI_nil, MM.Q.allD_dIs, MM.Q.frees_map, MM.Q.ev_cb, MM.Q.ev_cb1, MM.Q.ev_call, MM.Q.ev_call1, MM.Q.ev_call0, MM.Q.ev_callK, MM.Q.ev_callK1, MM.Q.ev_callK2, MM.Q.ldd_some, MM.Q.laid_nil, MM.Q.laid_k, MM.Q.laid_p, MM.Q.ixO_some, MM.Q.ev_ix, MM.Q.ev_ix1, MM.Q.ev_ix2, MM.Q.ix_list, MM.Q.ix_tup, MM.Q.refS_lst, MM.Q.refS_tup, MM.Q.seq_ref, MM.Q.seq_own, MM.Q.seq_list, MM.Q.seq_tup, MM.Q.ixK_some, MM.Q.ix_ref, MM.Q.ix_own, MM.Q.listO_f, MM.Q.ev_list, MM.Q.at0, MM.Q.at1, MM.Q.at2, MM.Q.at3, MM.Q.at4, MM.Q.ixN0, MM.Q.ixN1, MM.Q.ixN2, MM.Q.ev_oN, MM.Q.ev_oS, MM.Q.oS_int, MM.Q.ev_sl, MM.Q.ev_sl1, MM.Q.ev_sl2, MM.Q.ev_sl3, MM.Q.ev_rev, MM.Q.rev_list, MM.Q.ev_bm, MM.Q.ev_bm1, MM.Q.cBM_t, MM.Q.ev_bm2, MM.Q.buO_some, MM.Q.ev_bu, MM.Q.ev_bu1, MM.Q.cBU_t, MM.Q.ev_bu2, MM.Q.ty_str, MM.Q.tyO_some, MM.Q.ty_ref, MM.Q.ty_own, MM.Q.ty_list, MM.Q.beq_ll, MM.Q.beq_ss, MM.Q.celO_some, MM.Q.cell_ref, MM.Q.cell_own, MM.Q.ev_append, MM.Q.appO_some, MM.Q.ev_extend, MM.Q.extO_some, MM.Q.ev_pop, MM.Q.popO_snoc, MM.Q.ev_ind, MM.Q.ev_ind1, MM.Q.ev_neg, MM.Q.neg_int, MM.Q.ev_iter, MM.Q.ev_it, MM.Q.itO_some, MM.Q.items_list, MM.Q.items_tup, MM.Q.ev_rg1, MM.Q.rg1_int, MM.Q.ev_lc, MM.Q.ev_lc1, MM.Q.ev_lc2, MM.Q.wipe_nil, MM.Q.wipe_cons, MM.Q.ev_seq, MM.Q.seq_nx, MM.Q.seq_rt, MM.Q.seq_exc, MM.Q.seq_bk, MM.Q.seq_ct, MM.Q.ev_asg, MM.Q.ev_asg1, MM.Q.nxO_some, MM.Q.mg_name, MM.Q.mg_nil, MM.Q.mg_consN, MM.Q.mg_tup, MM.Q.ev_expr, MM.Q.ev_expr1, MM.Q.ev_ret, MM.Q.ev_ret1, MM.Q.ev_retN, MM.Q.ev_skip, MM.Q.ev_brk, MM.Q.ev_cnt, MM.Q.ev_if, MM.Q.if_t, MM.Q.if_f, MM.Q.ev_for, MM.Q.ev_for1, MM.Q.ev_fz, MM.Q.fz_own, MM.Q.fzC_some, MM.Q.fzO_some, MM.Q.fz_d, MM.Q.fz_ref, MM.Q.stO_some, MM.Q.ev_st, MM.Q.ev_st1, MM.Q.ev_st2, MM.Q.ev_st3, MM.Q.ev_setIx, MM.Q.siO_some, MM.Q.ev_par, MM.Q.ev_par1, MM.Q.nones_zero, MM.Q.nones_succ, MM.Q.begin_eq,  MM.Q.ev_fn, MM.Q.fin_rt, MM.Q.fin_ref, MM.Q.fin_nx, MM.Q.trim_same, MM.Q.trim_app, MM.Q.ev_len, MM.Q.ev_lst_l, MM.Q.ev_lst_t, MM.Q.ev_lst_r, MM.Q.ev_lst_o, MM.Q.ev_l1, MM.Q.ev_sum, MM.Q.ev_all, MM.Q.ev_any, MM.Q.ev_isi, MM.Q.kind_str, MM.Q.kind_int, MM.Q.kind_bool, MM.Q.kind_none, MM.Q.kind_dict, MM.Q.kind_list, MM.Q.kind_tup, MM.Q.kit_ss, MM.Q.kit_is, MM.Q.kit_bs, MM.Q.kit_ns, MM.Q.kit_ds, MM.Q.kit_ls, MM.Q.kit_ts, MM.Q.ev_repr, MM.Q.ev_join, MM.Q.lenO_some, MM.Q.len_list, MM.Q.len_tup, MM.Q.lnO_some, MM.Q.len_ref, MM.Q.len_own, MM.Q.lisO_some, MM.Q.l1O_some, MM.Q.ints_map, MM.Q.bools_map, MM.Q.strs_map, MM.Q.isiO_some, MM.Q.jnO_some, MM.Q.len_st, MM.Q.add_st, MM.Q.mul_st, MM.Q.ix_st, MM.Q.sl_st, MM.Q.rev_st, MM.Q.eqv_st, MM.Q.st_dec, MM.Q.divmod_int, MM.Q.items_st, MM.Q.allD_mapf, MM.Q.strs_mapf, MM.Q.ints_mapf, MM.Q.bools_mapf, MM.Q.join_ones_some, MM.Q.sl_own, MM.Q.sl_ref, MM.Q.sl_list, MM.Q.slO_some, MM.Q.add_own, MM.Q.add_ref, MM.Q.add_list, MM.Q.catO_some, MM.Q.cutL_map, MM.Q.mg_tupL, MM.Q.ev_ch, MM.Q.ev_ch1, MM.Q.ev_ch2, MM.Q.ch_t, MM.Q.ch_f, MM.Q.ev_ch3, MM.Q.starts_str, MM.Q.ends_str, MM.Q.upper_str, MM.Q.part_str, MM.Q.ev_fmt, MM.Q.ev_fmtR, MM.Q.fmt_st, MM.Q.fmt_int, MM.Q.ev_js_nil, MM.Q.ev_js_cons, MM.Q.ev_js1, MM.Q.ev_js2, MM.Q.jsF_some, MM.Q.js_st, MM.Q.ev_pr_nil, MM.Q.ev_pr_cons, MM.Q.ev_pr1, MM.Q.ev_pr2, MM.Q.ev_pr3, MM.Q.ev_dct, MM.Q.ev_dct1, MM.Q.keys_one, MM.Q.dctF_one, MM.Q.tup_list, MM.Q.tup_tup, MM.Q.tup_st, MM.Q.lst_st, MM.Q.mul_list, MM.Q.mul_tup, MM.Q.ev_popK, MM.Q.in_own, MM.Q.in_ref, MM.Q.in_list, MM.Q.inO_t, MM.Q.inO_f, MM.Q.b2i_t, MM.Q.b2i_f, MM.Q.int_int, MM.Q.int_bool, MM.Q.ev_rg2, MM.Q.rg2_int, MM.Q.ev_en, MM.Q.en_list, MM.Q.en_tup, MM.Q.en_st, MM.Q.ev_sortSc, MM.Q.ev_lenSc, MM.Q.ev_sc1, MM.Q.ev_scL1, MM.Q.ev_sc2, MM.Q.ev_scL2, 
  List.map_cons, List.map_nil, List.length_cons, List.length_nil, List.append_nil, List.nil_append, List.cons_append, List.getElem?_cons_zero, List.getElem?_cons_succ, List.set_cons_zero, List.set_cons_succ, Bool.and_true, Bool.true_and, Option.bind_some, Option.map_some, Nat.reduceAdd, Nat.reduceSub, Nat.add_sub_cancel, Nat.sub_self])
--- imports sig
/-! names -/
def midL (l : List Nat) : List Nat := Q.cutL l (some 10) (some (-1))
def mrkL (l : List Nat) : List Nat := Q.cutL l (some 1) (some 9)
def calB (l : List Nat) : Bool := decide (l.take 1 = [35]) && (decide (l.drop (l.length - 1) = [59]) && (decide (12 ≤ l.length) && (decide (l[9]? = some 45) && (markB (mrkL l) && wordB (midL l)))))
theorem mid_short {l : List Nat} (h : l.length ≤ 11) : midL l = [] := by
  apply List.eq_nil_of_length_eq_zero
  unfold midL Q.cutL
  have e : HT.sIx l.length l.length (some (-1)) = l.length - 1 := by
    show (if (-1 : Int) < 0 then (-1 + (l.length : Int)).toNat else min (Int.toNat (-1)) l.length) = _
    rw [if_pos (by decide)]
    omega
  rw [e, show HT.sIx l.length 0 (some 10) = min 10 l.length from HT.sIx_nat _ _ 10, List.length_take, List.length_drop]
  omega
theorem at9 {l : List Nat} (h : 9 < l.length) : ∃ d, atI l 9 = some d ∧ l[9]? = some d := by
  refine ⟨l[9], ?_, List.getElem?_eq_getElem h⟩
  rw [Q.atI_nat (by decide) (by omega)]
  exact List.getElem?_eq_getElem h
theorem len_mrk {l : List Nat} : (mrkL l).length ≤ l.length := Q.cutL_len
theorem len_mid {l : List Nat} : (midL l).length ≤ l.length := Q.cutL_len
theorem one_eq {a b : Nat} : decide ([a] = [b]) = decide (a = b) := by
  by_cases h : a = b
  · subst h; rw [decide_eq_true rfl, decide_eq_true rfl]
  · rw [decide_eq_false h, decide_eq_false (fun e => h (List.cons.inj e).1)]
/-! what is no text -/
def noStr (d : PyData) : Bool := match d with | .str _ => false | _ => true
theorem isi_no {S : Sg} {d : PyData} (h : noStr d = true) : Q.isiO (Mv.kind S (.d d)) "str" = some (.val (.d (.bool false))) := by
  cases d with
  | none => rw [Q.kind_none, Q.isiO_some, Q.kit_ns]; rfl
  | bool b => rw [Q.kind_bool, Q.isiO_some, Q.kit_bs]; rfl
  | int i => rw [Q.kind_int, Q.isiO_some, Q.kit_is]; rfl
  | str z => cases h
  | list xs => rw [Q.kind_list, Q.isiO_some, Q.kit_ls]; rfl
  | tuple xs => rw [Q.kind_tup, Q.isiO_some, Q.kit_ts]; rfl
  | dict xs => rw [Q.kind_dict, Q.isiO_some, Q.kit_ds]; rfl
theorem all_in {S : Sg} {ρ0 : Rho} {z l : List Nat} {i : Nat} (hlen : i < ρ0.length) (hl : l.length ≤ 1000000) :
    lcLoop (mgName i) mYes (mBin .ref (gInN false) (mVar i) (mC (.str (Q.st z)))) ρ0 (l.map fun c => .d (.str (Q.st [c]))) [] S = .ok (((l.map fun c => decide (c ∈ z)).map PyData.bool).map .d) S := by
  have := @Q.lc_mapF ρ0 S Nat (mgName i) (mBin .ref (gInN false) (mVar i) (mC (.str (Q.st z)))) (fun c => .d (.str (Q.st [c]))) (fun c => .d (.bool (decide (c ∈ z)))) l [] (fun c _ => ⟨ρ0.set i (some (.d (.str (Q.st [c])))), rfl, by
    have : (ρ0.set i (some (Mv.d (.str (Q.st [c])))))[i]? = some (some (.d (.str (Q.st [c])))) := List.getElem?_set_self hlen
    show (Res.bind (Q.vr (ρ0.set i (some (Mv.d (.str (Q.st [c])))))[i]? S) _) = _
    rw [this]
    show Q.bearO .ref (gInN false S (.d (.str (Q.st [c]))) (.d (.str (Q.st z)))) S = _
    rw [Q.in_str, notin_one]
    rfl, rfl⟩) (by rw [PySem.sizeLine_eq]; simp; omega)
  rw [this, List.nil_append, List.map_map, List.map_map]
  rfl
theorem none_out {S : Sg} {ρ0 : Rho} {z l : List Nat} {i : Nat} (hlen : i < ρ0.length) (hl : l.length ≤ 1000000) :
    lcLoop (mgName i) (mTst (mBin .ref (gInN true) (mVar i) (mC (.str (Q.st z))))) (mVar i) ρ0 (l.map fun c => .d (.str (Q.st [c]))) [] S = .ok ((l.filter fun c => !decide (c ∈ z)).map fun c => .d (.str (Q.st [c]))) S := by
  have := @Q.lc_filterF ρ0 S Nat (mgName i) (mTst (mBin .ref (gInN true) (mVar i) (mC (.str (Q.st z))))) (mVar i) (fun c => .d (.str (Q.st [c]))) (fun c => .d (.str (Q.st [c]))) (fun c => !decide (c ∈ z)) l [] (fun c _ => by
    have e : (ρ0.set i (some (Mv.d (.str (Q.st [c])))))[i]? = some (some (.d (.str (Q.st [c])))) := List.getElem?_set_self hlen
    refine ⟨ρ0.set i (some (.d (.str (Q.st [c])))), rfl, ?_, fun _ => ⟨?_, rfl⟩⟩
    · show (Res.bind (Res.bind (Q.vr (ρ0.set i (some (Mv.d (.str (Q.st [c])))))[i]? S) _) _) = _
      rw [e]
      show Res.bind (Q.bearO .ref (gInN true S (.d (.str (Q.st [c]))) (.d (.str (Q.st z)))) S) _ = _
      rw [Q.notIn_str, notin_one]
      rfl
    · show Q.vr (ρ0.set i (some (Mv.d (.str (Q.st [c])))))[i]? S = _
      rw [e]
      rfl) (by rw [PySem.sizeLine_eq]; simp; omega)
  rw [this, List.nil_append]

end Law
end
section
set_option Elab.async false
set_option linter.all false
set_option maxRecDepth 100000
set_option maxHeartbeats 4000000
set_option autoImplicit false
namespace Law
open PySem PySem.Spec PyProof.Rows L2 MM
local macro_rules | `(tactic| walk_at "mm") => `(tactic| simp (disch := first | assumption | omega | exact MM.Q.shaped_int | exact MM.Q.shaped_nil | exact MM.Q.shaped_ints | exact MM.Q.shaped_bool | (refine of_eq_true (eq_true ?_); first | with_unfolding_all rfl | (simp only [MM.Q.free_d, MM.Q.free_ref, MM.Q.free_adr, MM.Q.frees_nil, MM.Q.frees_cons, MM.Q.frees_map, Bool.and_true, Bool.true_and]; done)) | (simp only [List.length_cons, List.length_nil, List.append_nil, List.map_cons, List.map_nil, List.length_append, List.length_map, List.length_reverse, MM.Q.dI_len, PySem.sizeLine_eq]; omega)) only [MM.Q.bind_ok, MM.Q.bind_exc, MM.Q.go_ok, MM.Q.go_exc, MM.Q.nox_ok, MM.Q.vr_some, MM.Q.ev_var, MM.Q.ev_c, MM.Q.ev_k, MM.Q.frzO_some, MM.Q.tupO_some, MM.Q.tupO_none, MM.Q.bear_val, MM.Q.bear_frz, MM.Q.bear_ref, MM.Q.bear_own, MM.Q.bear_tup, MM.Q.allD_nil, MM.Q.allD_cons, MM.Q.allD_map, MM.Q.bearO_some, MM.Q.ev_bin, MM.Q.ev_bin1, MM.Q.ev_bin2, MM.Q.add_int, MM.Q.sub_int, MM.Q.mul_int, MM.Q.mod_int, MM.Q.fdiv_int, MM.Q.pow_int, MM.Q.intB_int, MM.Q.datO_f, MM.Q.datO_t, MM.Q.data_d, MM.Q.data_ref, MM.Q.data_own, MM.Q.ev_eq_r, MM.Q.ev_eq_o, MM.Q.ev_eq_l, MM.Q.ev_eq_t, MM.Q.ev_eq_i, MM.Q.ev_eq_b, MM.Q.ev_eq_n, MM.Q.ev_eq_st, MM.Q.ev_eq_sf, MM.Q.eqO_some, MM.Q.eqC_t, MM.Q.eqC_f, MM.Q.eqv_nil, MM.Q.eqv_int, MM.Q.eqv_bool, MM.Q.in_str, MM.Q.notIn_str, MM.Q.is_bool, MM.Q.isnot_bool, MM.Q.tst_bool, MM.Q.ev_tst, MM.Q.ev_truth, MM.Q.ev_tru, MM.Q.truO_some, MM.Q.truth_bool, MM.Q.truth_int, MM.Q.truth_none, MM.Q.truth_list, MM.Q.truth_tup, MM.Q.ev_andB, MM.Q.ev_orB, MM.Q.ev_notB, MM.Q.andB_t, MM.Q.andB_f, MM.Q.orB_t, MM.Q.orB_f, MM.Q.ev_notB1, MM.Q.ev_and, MM.Q.ev_or, MM.Q.and_tB, MM.Q.and_fB, MM.Q.or_tB, MM.Q.or_fB, MM.Q.ev_not, MM.Q.ev_not1, MM.Q.notO_some, MM.Q.ev_ifE, MM.Q.ifE_t, MM.Q.ifE_f, MM.Q.ev_nil, MM.Q.ev_cons, MM.Q.ev_cons1, MM.Q.ev_cons2, MM.Q.ev_disp, MM.Q.disp_lst, MM.Q.disp_tup, MM.Q.frees_nil, MM.Q.frees_cons, MM.Q.free_d, MM.Q.free_ref, MM.Q.free_adr, MM.Q.dI_snoc, MM.Q.dI_len, MM.Q.allD_dI, MM.Q.dI_nil, MM.Q.allD_dIs, MM.Q.frees_map, MM.Q.ev_cb, MM.Q.ev_cb1, MM.Q.ev_call, MM.Q.ev_call1, MM.Q.ev_call0, MM.Q.ev_callK, MM.Q.ev_callK1, MM.Q.ev_callK2, MM.Q.ldd_some, MM.Q.laid_nil, MM.Q.laid_k, MM.Q.laid_p, MM.Q.ixO_some, MM.Q.ev_ix, MM.Q.ev_ix1, MM.Q.ev_ix2, MM.Q.ix_list, MM.Q.ix_tup, MM.Q.refS_lst, MM.Q.refS_tup, MM.Q.seq_ref, MM.Q.seq_own, MM.Q.seq_list, MM.Q.seq_tup, MM.Q.ixK_some, MM.Q.ix_ref, MM.Q.ix_own, MM.Q.listO_f, MM.Q.ev_list, MM.Q.at0, MM.Q.at1, MM.Q.at2, MM.Q.at3, MM.Q.at4, MM.Q.ixN0, MM.Q.ixN1, MM.Q.ixN2, MM.Q.ev_oN, MM.Q.ev_oS, MM.Q.oS_int, MM.Q.ev_sl, MM.Q.ev_sl1, MM.Q.ev_sl2, MM.Q.ev_sl3, MM.Q.ev_rev, MM.Q.rev_list, MM.Q.ev_bm, MM.Q.ev_bm1, MM.Q.cBM_t, MM.Q.ev_bm2, MM.Q.buO_some, MM.Q.ev_bu, MM.Q.ev_bu1, MM.Q.cBU_t, MM.Q.ev_bu2, MM.Q.ty_str, MM.Q.tyO_some, MM.Q.ty_ref, MM.Q.ty_own, MM.Q.ty_list, MM.Q.beq_ll, MM.Q.beq_ss, MM.Q.celO_some, MM.Q.cell_ref, MM.Q.cell_own, MM.Q.ev_append, MM.Q.appO_some, MM.Q.ev_extend, MM.Q.extO_some, MM.Q.ev_pop, MM.Q.popO_snoc, MM.Q.ev_ind, MM.Q.ev_ind1, MM.Q.ev_neg, MM.Q.neg_int, MM.Q.ev_iter, MM.Q.ev_it, MM.Q.itO_some, MM.Q.items_list, MM.Q.items_tup, MM.Q.ev_rg1, MM.Q.rg1_int, MM.Q.ev_lc, MM.Q.ev_lc1, MM.Q.ev_lc2, MM.Q.wipe_nil, MM.Q.wipe_cons, MM.Q.ev_seq, MM.Q.seq_nx, MM.Q.seq_rt, MM.Q.seq_exc, MM.Q.seq_bk, MM.Q.seq_ct, MM.Q.ev_asg, MM.Q.ev_asg1, MM.Q.nxO_some, MM.Q.mg_name, MM.Q.mg_nil, MM.Q.mg_consN, MM.Q.mg_tup, MM.Q.ev_expr, MM.Q.ev_expr1, MM.Q.ev_ret, MM.Q.ev_ret1, MM.Q.ev_retN, MM.Q.ev_skip, MM.Q.ev_brk, MM.Q.ev_cnt, MM.Q.ev_if, MM.Q.if_t, MM.Q.if_f, MM.Q.ev_for, MM.Q.ev_for1, MM.Q.ev_fz, MM.Q.fz_own, MM.Q.fzC_some, MM.Q.fzO_some, MM.Q.fz_d, MM.Q.fz_ref, MM.Q.stO_some, MM.Q.ev_st, MM.Q.ev_st1, MM.Q.ev_st2, MM.Q.ev_st3, MM.Q.ev_setIx, MM.Q.siO_some, MM.Q.ev_par, MM.Q.ev_par1, MM.Q.nones_zero, MM.Q.nones_succ, MM.Q.begin_eq, draw_int, dS_len, dS_app, dS_get, dS_set, sg_app, sg_app2, ag0, ag1, ag2, ag3, as0, as1, as2, as3, al1, al2, al3, dS_trim, dS_trim0, dS_trimc, Int.reduceToNat, Int.toNat_natCast, List.length_map,  MM.Q.ev_fn, MM.Q.fin_rt, MM.Q.fin_ref, MM.Q.fin_nx, MM.Q.trim_same, MM.Q.trim_app, MM.Q.ev_len, MM.Q.ev_lst_l, MM.Q.ev_lst_t, MM.Q.ev_lst_r, MM.Q.ev_lst_o, MM.Q.ev_l1, MM.Q.ev_sum, MM.Q.ev_all, MM.Q.ev_any, MM.Q.ev_isi, MM.Q.kind_str, MM.Q.kind_int, MM.Q.kind_bool, MM.Q.kind_none, MM.Q.kind_dict, MM.Q.kind_list, MM.Q.kind_tup, MM.Q.kit_ss, MM.Q.kit_is, MM.Q.kit_bs, MM.Q.kit_ns, MM.Q.kit_ds, MM.Q.kit_ls, MM.Q.kit_ts, MM.Q.ev_repr, MM.Q.ev_join, MM.Q.lenO_some, MM.Q.len_list, MM.Q.len_tup, MM.Q.lnO_some, MM.Q.len_ref, MM.Q.len_own, MM.Q.lisO_some, MM.Q.l1O_some, MM.Q.ints_map, MM.Q.bools_map, MM.Q.strs_map, MM.Q.isiO_some, MM.Q.jnO_some, MM.Q.len_st, MM.Q.add_st, MM.Q.mul_st, MM.Q.ix_st, MM.Q.sl_st, MM.Q.rev_st, MM.Q.eqv_st, MM.Q.st_dec, MM.Q.divmod_int, MM.Q.items_st, MM.Q.allD_mapf, MM.Q.strs_mapf, MM.Q.ints_mapf, MM.Q.bools_mapf, MM.Q.join_ones_some, MM.Q.sl_own, MM.Q.sl_ref, MM.Q.sl_list, MM.Q.slO_some, MM.Q.add_own, MM.Q.add_ref, MM.Q.add_list, MM.Q.catO_some, MM.Q.cutL_map, MM.Q.mg_tupL, MM.Q.ev_ch, MM.Q.ev_ch1, MM.Q.ev_ch2, MM.Q.ch_t, MM.Q.ch_f, MM.Q.ev_ch3, MM.Q.starts_str, MM.Q.ends_str, MM.Q.upper_str, MM.Q.part_str, MM.Q.ev_fmt, MM.Q.ev_fmtR, MM.Q.fmt_st, MM.Q.fmt_int, MM.Q.ev_js_nil, MM.Q.ev_js_cons, MM.Q.ev_js1, MM.Q.ev_js2, MM.Q.jsF_some, MM.Q.js_st, MM.Q.ev_pr_nil, MM.Q.ev_pr_cons, MM.Q.ev_pr1, MM.Q.ev_pr2, MM.Q.ev_pr3, MM.Q.ev_dct, MM.Q.ev_dct1, MM.Q.keys_one, MM.Q.dctF_one, MM.Q.tup_list, MM.Q.tup_tup, MM.Q.tup_st, MM.Q.lst_st, MM.Q.mul_list, MM.Q.mul_tup, MM.Q.ev_popK, MM.Q.in_own, MM.Q.in_ref, MM.Q.in_list, MM.Q.inO_t, MM.Q.inO_f, MM.Q.b2i_t, MM.Q.b2i_f, MM.Q.int_int, MM.Q.int_bool, MM.Q.ev_rg2, MM.Q.rg2_int, MM.Q.ev_en, MM.Q.en_list, MM.Q.en_tup, MM.Q.en_st, MM.Q.ev_sortSc, MM.Q.ev_lenSc, MM.Q.ev_sc1, MM.Q.ev_scL1, MM.Q.ev_sc2, MM.Q.ev_scL2, 
  List.map_cons, List.map_nil, List.length_cons, List.length_nil, List.append_nil, List.nil_append, List.cons_append, List.getElem?_cons_zero, List.getElem?_cons_succ, List.set_cons_zero, List.set_cons_succ, Bool.and_true, Bool.true_and, Option.bind_some, Option.map_some, Nat.reduceAdd, Nat.reduceSub, Nat.add_sub_cancel, Nat.sub_self])
--- imports nos nm words mk
/-! names by their form -/
theorem calB_of {m w : List Nat} (hm : markB m = true) (hw : wordB w = true) : calB (nameL m w) = true := by
  have lm := (of_markB hm).1
  have lw := of_wordB hw
  have hl := @nameL_len m w
  unfold calB
  rw [show mrkL (nameL m w) = m from nameL_mark lm, show midL (nameL m w) = w from nameL_label lm, hm, hw]
  have h1 : (nameL m w).drop ((nameL m w).length - 1) = [59] := by
    rw [hl]
    have : nameL m w = (35 :: (m ++ 45 :: w)) ++ [59] := by simp [nameL]
    rw [this, show m.length + w.length + 3 - 1 = (35 :: (m ++ 45 :: w)).length by simp; omega, List.drop_left]
  have h2 : (nameL m w)[9]? = some 45 := by
    show (m ++ 45 :: (w ++ [59]))[8]? = some 45
    rw [List.getElem?_append_right (by omega), lm]; rfl
  rw [h1, h2, decide_eq_true (show 12 ≤ (nameL m w).length by omega)]
  rfl
theorem of_calB {n : List Nat} (h : calB n = true) : ∃ m w, markB m = true ∧ wordB w = true ∧ n = nameL m w := by
  unfold calB at h
  simp only [Bool.and_eq_true, decide_eq_true_eq] at h
  obtain ⟨h1, h2, h3, h4, h5, h6⟩ := h
  refine ⟨mrkL n, midL n, h5, h6, ?_⟩
  have e1 : mrkL n = (n.drop 1).take 8 := by
    unfold mrkL
    rw [show (some (1 : Int)) = some ((1 : Nat) : Int) from rfl, show (some (9 : Int)) = some ((9 : Nat) : Int) from rfl, Q.cutL_ab (by omega) (by decide)]
  have e2 : midL n = (n.drop 10).take (n.length - 1 - 10) := by
    unfold midL
    rw [show (some (10 : Int)) = some ((10 : Nat) : Int) from rfl, Q.cutL_neg1 (by omega)]
  have a1 : n = n.take 1 ++ n.drop 1 := (List.take_append_drop 1 n).symm
  have a2 : n.drop 1 = (n.drop 1).take 8 ++ n.drop 9 := by
    have := (List.take_append_drop 8 (n.drop 1)).symm
    rwa [List.drop_drop] at this
  have a3 : n.drop 9 = 45 :: n.drop 10 := by
    have hlt : 9 < n.length := by omega
    rw [List.drop_eq_getElem_cons hlt]
    rw [List.getElem?_eq_getElem hlt] at h4
    rw [Option.some.inj h4]
  have a4 : n.drop 10 = (n.drop 10).take (n.length - 1 - 10) ++ n.drop (n.length - 1) := by
    have := (List.take_append_drop (n.length - 1 - 10) (n.drop 10)).symm
    rwa [List.drop_drop, show 10 + (n.length - 1 - 10) = n.length - 1 by omega] at this
  rw [e1, e2]
  unfold nameL
  rw [← h2, ← a4, ← a3, ← a2]
  conv => lhs; rw [a1, h1]
  rfl
theorem calB_iff {n : List Nat} : calB n = true ↔ ∃ m w, markB m = true ∧ wordB w = true ∧ n = nameL m w :=
  ⟨of_calB, fun ⟨m, w, h1, h2, e⟩ => e ▸ calB_of h1 h2⟩
theorem fgs_no {c : Nat} (h : c ∈ fgs) : c ≠ 59 ∧ c ≠ 10 := by
  have : ∀ c ∈ fgs, c ≠ 59 ∧ c ≠ 10 := by decide
  exact this c h
theorem lets_no {c : Nat} (h : c ∈ lets) : c ≠ 59 ∧ c ≠ 10 := by
  have : ∀ c ∈ lets, c ≠ 59 ∧ c ≠ 10 := by decide
  exact this c h
theorem calB_end {n : List Nat} (h : calB n = true) : ∃ a, n = a ++ [59] ∧ (∀ c ∈ a, c ≠ 59) ∧ (∀ c ∈ n, c ≠ 10) ∧ n.head? = some 35 ∧ 12 ≤ n.length ∧ n.length ≤ 19 ∧ Gd 19 n := by
  obtain ⟨m, w, hm, hw, rfl⟩ := of_calB h
  have lm := of_markB hm
  have lw := of_wordB hw
  have hl := @nameL_len m w
  refine ⟨35 :: (m ++ 45 :: w), by simp [nameL], ?_, ?_, rfl, by omega, by omega, nameL_good hm hw⟩
  · intro c hc
    simp only [List.mem_cons, List.mem_append] at hc
    rcases hc with rfl | hc | rfl | hc
    · decide
    · exact (fgs_no (lm.2 c hc)).1
    · decide
    · exact (lets_no (lw.2.2 c hc)).1
  · intro c hc
    unfold nameL at hc
    simp only [List.mem_cons, List.mem_append, List.not_mem_nil, or_false] at hc
    rcases hc with rfl | hc | rfl | hc | rfl
    · decide
    · exact (fgs_no (lm.2 c hc)).2
    · decide
    · exact (lets_no (lw.2.2 c hc)).2
    · decide
/-- up to the first end -/
def hd59 : List Nat → List Nat
  | [] => []
  | c :: r => if c = 59 then [59] else c :: hd59 r
theorem hd59_app : ∀ {a t : List Nat}, (∀ c ∈ a, c ≠ 59) → hd59 (a ++ 59 :: t) = a ++ [59]
  | [], _, _ => rfl
  | c :: r, t, h => by
    show (if c = 59 then [59] else c :: hd59 (r ++ 59 :: t)) = _
    rw [if_neg (h c (List.mem_cons_self ..)), hd59_app fun d hd => h d (List.mem_cons_of_mem _ hd)]; rfl
theorem hd59_cases : ∀ (l : List Nat), (∃ a b, 59 ∉ a ∧ l = a ++ 59 :: b ∧ hd59 l = a ++ [59]) ∨ (59 ∉ l ∧ hd59 l = l)
  | [] => .inr ⟨by simp, rfl⟩
  | c :: r => by
    by_cases h : c = 59
    · subst h
      exact .inl ⟨[], r, by simp, rfl, rfl⟩
    · have e : hd59 (c :: r) = c :: hd59 r := if_neg h
      rcases hd59_cases r with ⟨a, b, h1, h2, h3⟩ | ⟨h1, h2⟩
      · exact .inl ⟨c :: a, b, by simp [h1]; exact fun z => h z.symm, by rw [h2]; rfl, by rw [e, h3]; rfl⟩
      · exact .inr ⟨by simp [h1]; exact fun z => h z.symm, by rw [e, h2]⟩
theorem hd59_pre (l : List Nat) : hd59 l <+: l := by
  rcases hd59_cases l with ⟨a, b, h1, h2, h3⟩ | ⟨h1, h2⟩
  · rw [h3]
    conv => rhs; rw [h2]
    exact ⟨b, by simp⟩
  · rw [h2]; exact List.prefix_rfl
def nameAt (x : List Nat) : Option (List Nat) := if calB (hd59 (x.take 19)) = true then some (hd59 (x.take 19)) else none
theorem nameAt_iff {x n : List Nat} : nameAt x = some n ↔ calB n = true ∧ n <+: x := by
  constructor
  · intro h
    unfold nameAt at h
    split at h
    · rename_i c
      cases h
      exact ⟨c, (hd59_pre _).trans (List.take_prefix 19 x)⟩
    · cases h
  · rintro ⟨h, t, rfl⟩
    obtain ⟨a, rfl, h1, -, -, -, h2, -⟩ := calB_end h
    have : hd59 ((a ++ [59] ++ t).take 19) = a ++ [59] := by
      rw [List.take_append, List.take_of_length_le (by omega), List.append_assoc]
      exact hd59_app h1
    unfold nameAt
    rw [this, if_pos h]
/-! all names that stand in a text -/
def namesL (w : List Nat) : List (List Nat) := (w.zipIdx.filter fun p => p.1 == 35).filterMap fun p => nameAt (w.drop p.2)
theorem namesL_mem {w n : List Nat} : n ∈ namesL w ↔ calB n = true ∧ n <:+: w := by
  unfold namesL
  rw [List.mem_filterMap]
  constructor
  · rintro ⟨p, hp, e⟩
    obtain ⟨h1, h2⟩ := nameAt_iff.mp e
    exact ⟨h1, h2.isInfix.trans (List.drop_suffix _ _).isInfix⟩
  · rintro ⟨h, s, t, rfl⟩
    obtain ⟨a, -, -, -, h0, -, -, -⟩ := calB_end h
    refine ⟨(35, s.length), List.mem_filter.mpr ⟨?_, rfl⟩, nameAt_iff.mpr ⟨h, t, ?_⟩⟩
    · rw [List.mem_zipIdx_iff_getElem?, List.append_assoc, List.getElem?_append_right (Nat.le_refl _), Nat.sub_self]
      cases n with
      | nil => cases h0
      | cons c r => cases h0; rfl
    · rw [List.append_assoc, List.drop_left]
theorem infix_parts {n a b : List Nat} (h : n <:+: a ++ 10 :: b) (h0 : 10 ∉ n) : n <:+: a ∨ n <:+: b := by
  obtain ⟨s, t, e⟩ := h
  rcases List.append_eq_append_iff.mp e with ⟨u, e1, e2⟩ | ⟨u, e1, e2⟩
  · exact .inl ⟨s, u, e1.symm⟩
  · cases u with
    | nil => exact .inl ⟨s, [], by rw [List.append_nil, e1, List.append_nil]⟩
    | cons d u =>
      have ed : d = 10 := by
        rw [List.cons_append] at e2
        exact (List.cons.inj e2).1.symm
      subst ed
      have e3 : b = u ++ t := by rw [List.cons_append] at e2; exact (List.cons.inj e2).2
      rcases List.append_eq_append_iff.mp e1 with ⟨v, f1, f2⟩ | ⟨v, f1, f2⟩
      · exact absurd (by rw [f2]; simp) h0
      · cases v with
        | nil => exact absurd (by rw [List.nil_append] at f2; rw [← f2]; simp) h0
        | cons d v =>
          rw [List.cons_append] at f2
          have f3 := (List.cons.inj f2).2
          exact .inr ⟨v, t, by rw [e3, f3]⟩
theorem namesL_twice {w n : List Nat} : n ∈ namesL (w ++ [10] ++ w) ↔ n ∈ namesL w := by
  rw [namesL_mem, namesL_mem, List.append_assoc]
  constructor
  · rintro ⟨h, i⟩
    obtain ⟨a, -, -, h10, -, -, -, -⟩ := calB_end h
    exact ⟨h, (infix_parts i fun z => h10 10 z rfl).elim id id⟩
  · rintro ⟨h, i⟩
    exact ⟨h, i.trans (List.prefix_append _ _).isInfix⟩
/-! as the law looks -/
theorem filter_one {α : Type} {L : List α} {p : α → Bool} {a : α} (h : L.Nodup) (ha : a ∈ L) (hp : ∀ y ∈ L, p y = true ↔ y = a) : L.filter p = [a] := by
  induction L with
  | nil => cases ha
  | cons x r ih =>
    rw [List.nodup_cons] at h
    rw [List.filter_cons]
    by_cases e : x = a
    · subst e
      rw [if_pos ((hp x (List.mem_cons_self ..)).mpr rfl)]
      have : r.filter p = [] := List.filter_eq_nil_iff.mpr fun y hy hpy => h.1 ((hp y (List.mem_cons_of_mem _ hy)).mp hpy ▸ hy)
      rw [this]
    · rw [if_neg fun z => e ((hp x (List.mem_cons_self ..)).mp z)]
      exact ih h.2 ((List.mem_cons.mp ha).resolve_left fun z => e z.symm) fun y hy => hp y (List.mem_cons_of_mem _ hy)
def sizes : List Nat := [12, 13, 14, 15, 16, 17, 18, 19]
theorem lawAt {x : List Nat} : ((sizes.filter fun s => decide (s ≤ x.length)).map fun s => x.take s).filter calB = (nameAt x).toList := by
  rw [List.filter_map, List.filter_filter]
  cases e : nameAt x with
  | none =>
    have : sizes.filter (fun s => (calB ∘ fun s => x.take s) s && decide (s ≤ x.length)) = [] := List.filter_eq_nil_iff.mpr fun s _ hs => by
      rw [Bool.and_eq_true] at hs
      have := nameAt_iff.mpr ⟨hs.1, List.take_prefix s x⟩
      rw [e] at this; cases this
    rw [this]; rfl
  | some n =>
    obtain ⟨h1, h2⟩ := nameAt_iff.mp e
    obtain ⟨a, -, -, -, -, l1, l2, -⟩ := calB_end h1
    have h3 := List.prefix_iff_eq_take.mp h2
    have h4 := h2.length_le
    have : sizes.filter (fun s => (calB ∘ fun s => x.take s) s && decide (s ≤ x.length)) = [n.length] := by
      refine filter_one (by decide) ?_ fun s _ => ⟨fun hs => ?_, fun hs => ?_⟩
      · have : ∀ k, 12 ≤ k → k ≤ 19 → k ∈ sizes := fun k h1 h2 => by
          have : k = 12 ∨ k = 13 ∨ k = 14 ∨ k = 15 ∨ k = 16 ∨ k = 17 ∨ k = 18 ∨ k = 19 := by omega
          rcases this with rfl | rfl | rfl | rfl | rfl | rfl | rfl | rfl <;> decide
        exact this _ l1 l2
      · rw [Bool.and_eq_true, decide_eq_true_eq] at hs
        have := nameAt_iff.mpr ⟨hs.1, List.take_prefix s x⟩
        rw [e] at this
        rw [Option.some.inj this, List.length_take]; omega
      · subst hs
        rw [Bool.and_eq_true]
        refine ⟨?_, decide_eq_true h4⟩
        show calB (x.take n.length) = true
        rw [← h3]; exact h1
    rw [this, List.map_singleton, ← h3]; rfl

end Law
end
section
set_option Elab.async false
set_option linter.all false
set_option maxRecDepth 100000
set_option maxHeartbeats 4000000
set_option autoImplicit false
namespace Law
open PySem PySem.Spec PyProof.Rows L2 MM
local macro_rules | `(tactic| walk_at "mm") => `(tactic| simp (disch := first | assumption | omega | exact MM.Q.shaped_int | exact MM.Q.shaped_nil | exact MM.Q.shaped_ints | exact MM.Q.shaped_bool | (refine of_eq_true (eq_true ?_); first | with_unfolding_all rfl | (simp only [MM.Q.free_d, MM.Q.free_ref, MM.Q.free_adr, MM.Q.frees_nil, MM.Q.frees_cons, MM.Q.frees_map, Bool.and_true, Bool.true_and]; done)) | (simp only [List.length_cons, List.length_nil, List.append_nil, List.map_cons, List.map_nil, List.length_append, List.length_map, List.length_reverse, MM.Q.dI_len, PySem.sizeLine_eq]; omega)) only [MM.Q.bind_ok, MM.Q.bind_exc, MM.Q.go_ok, MM.Q.go_exc, MM.Q.nox_ok, MM.Q.vr_some, MM.Q.ev_var, MM.Q.ev_c, MM.Q.ev_k, MM.Q.frzO_some, MM.Q.tupO_some, MM.Q.tupO_none, MM.Q.bear_val, MM.Q.bear_frz, MM.Q.bear_ref, MM.Q.bear_own, MM.Q.bear_tup, MM.Q.allD_nil, MM.Q.allD_cons, MM.Q.allD_map, MM.Q.bearO_some, MM.Q.ev_bin, MM.Q.ev_bin1, MM.Q.ev_bin2, MM.Q.add_int, MM.Q.sub_int, MM.Q.mul_int, MM.Q.mod_int, MM.Q.fdiv_int, MM.Q.pow_int, MM.Q.intB_int, MM.Q.datO_f, MM.Q.datO_t, MM.Q.data_d, MM.Q.data_ref, MM.Q.data_own, MM.Q.ev_eq_r, MM.Q.ev_eq_o, MM.Q.ev_eq_l, MM.Q.ev_eq_t, MM.Q.ev_eq_i, MM.Q.ev_eq_b, MM.Q.ev_eq_n, MM.Q.ev_eq_st, MM.Q.ev_eq_sf, MM.Q.eqO_some, MM.Q.eqC_t, MM.Q.eqC_f, MM.Q.eqv_nil, MM.Q.eqv_int, MM.Q.eqv_bool, MM.Q.in_str, MM.Q.notIn_str, MM.Q.is_bool, MM.Q.isnot_bool, MM.Q.tst_bool, MM.Q.ev_tst, MM.Q.ev_truth, MM.Q.ev_tru, MM.Q.truO_some, MM.Q.truth_bool, MM.Q.truth_int, MM.Q.truth_none, MM.Q.truth_list, MM.Q.truth_tup, MM.Q.ev_andB, MM.Q.ev_orB, MM.Q.ev_notB, MM.Q.andB_t, MM.Q.andB_f, MM.Q.orB_t, MM.Q.orB_f, MM.Q.ev_notB1, MM.Q.ev_and, MM.Q.ev_or, MM.Q.and_tB, MM.Q.and_fB, MM.Q.or_tB, MM.Q.or_fB, MM.Q.ev_not, MM.Q.ev_not1, MM.Q.notO_some, MM.Q.ev_ifE, MM.Q.ifE_t, MM.Q.ifE_f, MM.Q.ev_nil, MM.Q.ev_cons, MM.Q.ev_cons1, MM.Q.ev_cons2, MM.Q.ev_disp, MM.Q.disp_lst, MM.Q.disp_tup, MM.Q.frees_nil, MM.Q.frees_cons, MM.Q.free_d, MM.Q.free_ref, MM.Q.free_adr, MM.Q.dI_snoc, MM.Q.dI_len, MM.Q.allD_dI, MM.Q.dI_nil, MM.Q.allD_dIs, MM.Q.frees_map, MM.Q.ev_cb, MM.Q.ev_cb1, MM.Q.ev_call, MM.Q.ev_call1, MM.Q.ev_call0, MM.Q.ev_callK, MM.Q.ev_callK1, MM.Q.ev_callK2, MM.Q.ldd_some, MM.Q.laid_nil, MM.Q.laid_k, MM.Q.laid_p, MM.Q.ixO_some, MM.Q.ev_ix, MM.Q.ev_ix1, MM.Q.ev_ix2, MM.Q.ix_list, MM.Q.ix_tup, MM.Q.refS_lst, MM.Q.refS_tup, MM.Q.seq_ref, MM.Q.seq_own, MM.Q.seq_list, MM.Q.seq_tup, MM.Q.ixK_some, MM.Q.ix_ref, MM.Q.ix_own, MM.Q.listO_f, MM.Q.ev_list, MM.Q.at0, MM.Q.at1, MM.Q.at2, MM.Q.at3, MM.Q.at4, MM.Q.ixN0, MM.Q.ixN1, MM.Q.ixN2, MM.Q.ev_oN, MM.Q.ev_oS, MM.Q.oS_int, MM.Q.ev_sl, MM.Q.ev_sl1, MM.Q.ev_sl2, MM.Q.ev_sl3, MM.Q.ev_rev, MM.Q.rev_list, MM.Q.ev_bm, MM.Q.ev_bm1, MM.Q.cBM_t, MM.Q.ev_bm2, MM.Q.buO_some, MM.Q.ev_bu, MM.Q.ev_bu1, MM.Q.cBU_t, MM.Q.ev_bu2, MM.Q.ty_str, MM.Q.tyO_some, MM.Q.ty_ref, MM.Q.ty_own, MM.Q.ty_list, MM.Q.beq_ll, MM.Q.beq_ss, MM.Q.celO_some, MM.Q.cell_ref, MM.Q.cell_own, MM.Q.ev_append, MM.Q.appO_some, MM.Q.ev_extend, MM.Q.extO_some, MM.Q.ev_pop, MM.Q.popO_snoc, MM.Q.ev_ind, MM.Q.ev_ind1, MM.Q.ev_neg, MM.Q.neg_int, MM.Q.ev_iter, MM.Q.ev_it, MM.Q.itO_some, MM.Q.items_list, MM.Q.items_tup, MM.Q.ev_rg1, MM.Q.rg1_int, MM.Q.ev_lc, MM.Q.ev_lc1, MM.Q.ev_lc2, MM.Q.wipe_nil, MM.Q.wipe_cons, MM.Q.ev_seq, MM.Q.seq_nx, MM.Q.seq_rt, MM.Q.seq_exc, MM.Q.seq_bk, MM.Q.seq_ct, MM.Q.ev_asg, MM.Q.ev_asg1, MM.Q.nxO_some, MM.Q.mg_name, MM.Q.mg_nil, MM.Q.mg_consN, MM.Q.mg_tup, MM.Q.ev_expr, MM.Q.ev_expr1, MM.Q.ev_ret, MM.Q.ev_ret1, MM.Q.ev_retN, MM.Q.ev_skip, MM.Q.ev_brk, MM.Q.ev_cnt, MM.Q.ev_if, MM.Q.if_t, MM.Q.if_f, MM.Q.ev_for, MM.Q.ev_for1, MM.Q.ev_fz, MM.Q.fz_own, MM.Q.fzC_some, MM.Q.fzO_some, MM.Q.fz_d, MM.Q.fz_ref, MM.Q.stO_some, MM.Q.ev_st, MM.Q.ev_st1, MM.Q.ev_st2, MM.Q.ev_st3, MM.Q.ev_setIx, MM.Q.siO_some, MM.Q.ev_par, MM.Q.ev_par1, MM.Q.nones_zero, MM.Q.nones_succ, MM.Q.begin_eq,  MM.Q.ev_fn, MM.Q.fin_rt, MM.Q.fin_ref, MM.Q.fin_nx, MM.Q.trim_same, MM.Q.trim_app, MM.Q.ev_len, MM.Q.ev_lst_l, MM.Q.ev_lst_t, MM.Q.ev_lst_r, MM.Q.ev_lst_o, MM.Q.ev_l1, MM.Q.ev_sum, MM.Q.ev_all, MM.Q.ev_any, MM.Q.ev_isi, MM.Q.kind_str, MM.Q.kind_int, MM.Q.kind_bool, MM.Q.kind_none, MM.Q.kind_dict, MM.Q.kind_list, MM.Q.kind_tup, MM.Q.kit_ss, MM.Q.kit_is, MM.Q.kit_bs, MM.Q.kit_ns, MM.Q.kit_ds, MM.Q.kit_ls, MM.Q.kit_ts, MM.Q.ev_repr, MM.Q.ev_join, MM.Q.lenO_some, MM.Q.len_list, MM.Q.len_tup, MM.Q.lnO_some, MM.Q.len_ref, MM.Q.len_own, MM.Q.lisO_some, MM.Q.l1O_some, MM.Q.ints_map, MM.Q.bools_map, MM.Q.strs_map, MM.Q.isiO_some, MM.Q.jnO_some, MM.Q.len_st, MM.Q.add_st, MM.Q.mul_st, MM.Q.ix_st, MM.Q.sl_st, MM.Q.rev_st, MM.Q.eqv_st, MM.Q.st_dec, MM.Q.divmod_int, MM.Q.items_st, MM.Q.allD_mapf, MM.Q.strs_mapf, MM.Q.ints_mapf, MM.Q.bools_mapf, MM.Q.join_ones_some, MM.Q.sl_own, MM.Q.sl_ref, MM.Q.sl_list, MM.Q.slO_some, MM.Q.add_own, MM.Q.add_ref, MM.Q.add_list, MM.Q.catO_some, MM.Q.cutL_map, MM.Q.mg_tupL, MM.Q.ev_ch, MM.Q.ev_ch1, MM.Q.ev_ch2, MM.Q.ch_t, MM.Q.ch_f, MM.Q.ev_ch3, MM.Q.starts_str, MM.Q.ends_str, MM.Q.upper_str, MM.Q.part_str, MM.Q.ev_fmt, MM.Q.ev_fmtR, MM.Q.fmt_st, MM.Q.fmt_int, MM.Q.ev_js_nil, MM.Q.ev_js_cons, MM.Q.ev_js1, MM.Q.ev_js2, MM.Q.jsF_some, MM.Q.js_st, MM.Q.ev_pr_nil, MM.Q.ev_pr_cons, MM.Q.ev_pr1, MM.Q.ev_pr2, MM.Q.ev_pr3, MM.Q.ev_dct, MM.Q.ev_dct1, MM.Q.keys_one, MM.Q.dctF_one, MM.Q.tup_list, MM.Q.tup_tup, MM.Q.tup_st, MM.Q.lst_st, MM.Q.mul_list, MM.Q.mul_tup, MM.Q.ev_popK, MM.Q.in_own, MM.Q.in_ref, MM.Q.in_list, MM.Q.inO_t, MM.Q.inO_f, MM.Q.b2i_t, MM.Q.b2i_f, MM.Q.int_int, MM.Q.int_bool, MM.Q.ev_rg2, MM.Q.rg2_int, MM.Q.ev_en, MM.Q.en_list, MM.Q.en_tup, MM.Q.en_st, MM.Q.ev_sortSc, MM.Q.ev_lenSc, MM.Q.ev_sc1, MM.Q.ev_scL1, MM.Q.ev_sc2, MM.Q.ev_scL2, 
  List.map_cons, List.map_nil, List.length_cons, List.length_nil, List.append_nil, List.nil_append, List.cons_append, List.getElem?_cons_zero, List.getElem?_cons_succ, List.set_cons_zero, List.set_cons_succ, Bool.and_true, Bool.true_and, Option.bind_some, Option.map_some, Nat.reduceAdd, Nat.reduceSub, Nat.add_sub_cancel, Nat.sub_self])
--- imports nos
theorem spec_is_label {S : Sg} {l : List Nat} (hl : l.length ≤ 1000000) : f_is_label [.d (.str (Q.st l))] S = .ok (.d (.bool (wordB l))) S := by
  have hs : l.length ≤ sizeLine := by rw [PySem.sizeLine_eq]; omega
  unfold f_is_label m_is_label e_is_label_1 wordB
  walk_at "mm"
  rw [show k_LETTERS = Q.st lets from lit_l]
  by_cases h1 : 1 ≤ l.length
  · simp only [decide_eq_true h1, decide_eq_true (show (1 : Int) ≤ (l.length : Nat) by omega)]
    walk_at "mm"
    by_cases h2 : l.length ≤ 8
    · simp only [decide_eq_true h2, decide_eq_true (show ((l.length : Nat) : Int) ≤ 8 by omega)]
      walk_at "mm"
      rw [all_in (show 1 < 2 by decide) hl]
      walk_at "mm"
      rw [Q.all_map_id]
    · simp only [decide_eq_false h2, decide_eq_false (show ¬ ((l.length : Nat) : Int) ≤ 8 by omega), Bool.false_and, Bool.and_false]
      walk_at "mm"
  · simp only [decide_eq_false h1, decide_eq_false (show ¬ (1 : Int) ≤ (l.length : Nat) by omega), Bool.false_and]
    walk_at "mm"
theorem spec_is_mark {S : Sg} {l : List Nat} (hl : l.length ≤ 1000000) : f_is_mark [.d (.str (Q.st l))] S = .ok (.d (.bool (markB l))) S := by
  have hs : l.length ≤ sizeLine := by rw [PySem.sizeLine_eq]; omega
  unfold f_is_mark m_is_mark e_is_mark_1 markB
  walk_at "mm"
  rw [show k_FIGURES = Q.st fgs from lit_f]
  by_cases h1 : l.length = 8
  · rw [show ((l.length : Nat) : Int) = 8 by omega]
    simp only [decide_eq_true h1, Q.eqv_int, beq_self_eq_true]
    walk_at "mm"
    rw [all_in (show 1 < 2 by decide) hl]
    walk_at "mm"
    rw [Q.all_map_id]
  · simp only [decide_eq_false h1, Q.eqv_int, beq_eq_false_iff_ne.mpr (show ((l.length : Nat) : Int) ≠ 8 by omega), Bool.false_and]
    walk_at "mm"
section
variable {S : Sg} {d : PyData}
theorem label_no (h : noStr d = true) : f_is_label [.d d] S = .ok (.d (.bool false)) S := by
  unfold f_is_label m_is_label
  walk_at "mm"
  rw [isi_no h]
  walk_at "mm"
theorem mark_no (h : noStr d = true) : f_is_mark [.d d] S = .ok (.d (.bool false)) S := by
  unfold f_is_mark m_is_mark
  walk_at "mm"
  rw [isi_no h]
  walk_at "mm"
end

end Law
end
section
set_option Elab.async false
set_option linter.all false
set_option maxRecDepth 100000
set_option maxHeartbeats 4000000
set_option autoImplicit false
namespace Law
open PySem PySem.Spec PyProof.Rows L2 MM
local macro_rules | `(tactic| walk_at "mm") => `(tactic| simp (disch := first | assumption | omega | exact MM.Q.shaped_int | exact MM.Q.shaped_nil | exact MM.Q.shaped_ints | exact MM.Q.shaped_bool | (refine of_eq_true (eq_true ?_); first | with_unfolding_all rfl | (simp only [MM.Q.free_d, MM.Q.free_ref, MM.Q.free_adr, MM.Q.frees_nil, MM.Q.frees_cons, MM.Q.frees_map, Bool.and_true, Bool.true_and]; done)) | (simp only [List.length_cons, List.length_nil, List.append_nil, List.map_cons, List.map_nil, List.length_append, List.length_map, List.length_reverse, MM.Q.dI_len, PySem.sizeLine_eq]; omega)) only [MM.Q.bind_ok, MM.Q.bind_exc, MM.Q.go_ok, MM.Q.go_exc, MM.Q.nox_ok, MM.Q.vr_some, MM.Q.ev_var, MM.Q.ev_c, MM.Q.ev_k, MM.Q.frzO_some, MM.Q.tupO_some, MM.Q.tupO_none, MM.Q.bear_val, MM.Q.bear_frz, MM.Q.bear_ref, MM.Q.bear_own, MM.Q.bear_tup, MM.Q.allD_nil, MM.Q.allD_cons, MM.Q.allD_map, MM.Q.bearO_some, MM.Q.ev_bin, MM.Q.ev_bin1, MM.Q.ev_bin2, MM.Q.add_int, MM.Q.sub_int, MM.Q.mul_int, MM.Q.mod_int, MM.Q.fdiv_int, MM.Q.pow_int, MM.Q.intB_int, MM.Q.datO_f, MM.Q.datO_t, MM.Q.data_d, MM.Q.data_ref, MM.Q.data_own, MM.Q.ev_eq_r, MM.Q.ev_eq_o, MM.Q.ev_eq_l, MM.Q.ev_eq_t, MM.Q.ev_eq_i, MM.Q.ev_eq_b, MM.Q.ev_eq_n, MM.Q.ev_eq_st, MM.Q.ev_eq_sf, MM.Q.eqO_some, MM.Q.eqC_t, MM.Q.eqC_f, MM.Q.eqv_nil, MM.Q.eqv_int, MM.Q.eqv_bool, MM.Q.in_str, MM.Q.notIn_str, MM.Q.is_bool, MM.Q.isnot_bool, MM.Q.tst_bool, MM.Q.ev_tst, MM.Q.ev_truth, MM.Q.ev_tru, MM.Q.truO_some, MM.Q.truth_bool, MM.Q.truth_int, MM.Q.truth_none, MM.Q.truth_list, MM.Q.truth_tup, MM.Q.ev_andB, MM.Q.ev_orB, MM.Q.ev_notB, MM.Q.andB_t, MM.Q.andB_f, MM.Q.orB_t, MM.Q.orB_f, MM.Q.ev_notB1, MM.Q.ev_and, MM.Q.ev_or, MM.Q.and_tB, MM.Q.and_fB, MM.Q.or_tB, MM.Q.or_fB, MM.Q.ev_not, MM.Q.ev_not1, MM.Q.notO_some, MM.Q.ev_ifE, MM.Q.ifE_t, MM.Q.ifE_f, MM.Q.ev_nil, MM.Q.ev_cons, MM.Q.ev_cons1, MM.Q.ev_cons2, MM.Q.ev_disp, MM.Q.disp_lst, MM.Q.disp_tup, MM.Q.frees_nil, MM.Q.frees_cons, MM.Q.free_d, MM.Q.free_ref, MM.Q.free_adr, MM.Q.dI_snoc, MM.Q.dI_len, MM.Q.allD_dI, MM.Q.dI_nil, MM.Q.allD_dIs, MM.Q.frees_map, MM.Q.ev_cb, MM.Q.ev_cb1, MM.Q.ev_call, MM.Q.ev_call1, MM.Q.ev_call0, MM.Q.ev_callK, MM.Q.ev_callK1, MM.Q.ev_callK2, MM.Q.ldd_some, MM.Q.laid_nil, MM.Q.laid_k, MM.Q.laid_p, MM.Q.ixO_some, MM.Q.ev_ix, MM.Q.ev_ix1, MM.Q.ev_ix2, MM.Q.ix_list, MM.Q.ix_tup, MM.Q.refS_lst, MM.Q.refS_tup, MM.Q.seq_ref, MM.Q.seq_own, MM.Q.seq_list, MM.Q.seq_tup, MM.Q.ixK_some, MM.Q.ix_ref, MM.Q.ix_own, MM.Q.listO_f, MM.Q.ev_list, MM.Q.at0, MM.Q.at1, MM.Q.at2, MM.Q.at3, MM.Q.at4, MM.Q.ixN0, MM.Q.ixN1, MM.Q.ixN2, MM.Q.ev_oN, MM.Q.ev_oS, MM.Q.oS_int, MM.Q.ev_sl, MM.Q.ev_sl1, MM.Q.ev_sl2, MM.Q.ev_sl3, MM.Q.ev_rev, MM.Q.rev_list, MM.Q.ev_bm, MM.Q.ev_bm1, MM.Q.cBM_t, MM.Q.ev_bm2, MM.Q.buO_some, MM.Q.ev_bu, MM.Q.ev_bu1, MM.Q.cBU_t, MM.Q.ev_bu2, MM.Q.ty_str, MM.Q.tyO_some, MM.Q.ty_ref, MM.Q.ty_own, MM.Q.ty_list, MM.Q.beq_ll, MM.Q.beq_ss, MM.Q.celO_some, MM.Q.cell_ref, MM.Q.cell_own, MM.Q.ev_append, MM.Q.appO_some, MM.Q.ev_extend, MM.Q.extO_some, MM.Q.ev_pop, MM.Q.popO_snoc, MM.Q.ev_ind, MM.Q.ev_ind1, MM.Q.ev_neg, MM.Q.neg_int, MM.Q.ev_iter, MM.Q.ev_it, MM.Q.itO_some, MM.Q.items_list, MM.Q.items_tup, MM.Q.ev_rg1, MM.Q.rg1_int, MM.Q.ev_lc, MM.Q.ev_lc1, MM.Q.ev_lc2, MM.Q.wipe_nil, MM.Q.wipe_cons, MM.Q.ev_seq, MM.Q.seq_nx, MM.Q.seq_rt, MM.Q.seq_exc, MM.Q.seq_bk, MM.Q.seq_ct, MM.Q.ev_asg, MM.Q.ev_asg1, MM.Q.nxO_some, MM.Q.mg_name, MM.Q.mg_nil, MM.Q.mg_consN, MM.Q.mg_tup, MM.Q.ev_expr, MM.Q.ev_expr1, MM.Q.ev_ret, MM.Q.ev_ret1, MM.Q.ev_retN, MM.Q.ev_skip, MM.Q.ev_brk, MM.Q.ev_cnt, MM.Q.ev_if, MM.Q.if_t, MM.Q.if_f, MM.Q.ev_for, MM.Q.ev_for1, MM.Q.ev_fz, MM.Q.fz_own, MM.Q.fzC_some, MM.Q.fzO_some, MM.Q.fz_d, MM.Q.fz_ref, MM.Q.stO_some, MM.Q.ev_st, MM.Q.ev_st1, MM.Q.ev_st2, MM.Q.ev_st3, MM.Q.ev_setIx, MM.Q.siO_some, MM.Q.ev_par, MM.Q.ev_par1, MM.Q.nones_zero, MM.Q.nones_succ, MM.Q.begin_eq, spec_is_label, spec_is_mark, label_no, mark_no,  MM.Q.ev_fn, MM.Q.fin_rt, MM.Q.fin_ref, MM.Q.fin_nx, MM.Q.trim_same, MM.Q.trim_app, MM.Q.ev_len, MM.Q.ev_lst_l, MM.Q.ev_lst_t, MM.Q.ev_lst_r, MM.Q.ev_lst_o, MM.Q.ev_l1, MM.Q.ev_sum, MM.Q.ev_all, MM.Q.ev_any, MM.Q.ev_isi, MM.Q.kind_str, MM.Q.kind_int, MM.Q.kind_bool, MM.Q.kind_none, MM.Q.kind_dict, MM.Q.kind_list, MM.Q.kind_tup, MM.Q.kit_ss, MM.Q.kit_is, MM.Q.kit_bs, MM.Q.kit_ns, MM.Q.kit_ds, MM.Q.kit_ls, MM.Q.kit_ts, MM.Q.ev_repr, MM.Q.ev_join, MM.Q.lenO_some, MM.Q.len_list, MM.Q.len_tup, MM.Q.lnO_some, MM.Q.len_ref, MM.Q.len_own, MM.Q.lisO_some, MM.Q.l1O_some, MM.Q.ints_map, MM.Q.bools_map, MM.Q.strs_map, MM.Q.isiO_some, MM.Q.jnO_some, MM.Q.len_st, MM.Q.add_st, MM.Q.mul_st, MM.Q.ix_st, MM.Q.sl_st, MM.Q.rev_st, MM.Q.eqv_st, MM.Q.st_dec, MM.Q.divmod_int, MM.Q.items_st, MM.Q.allD_mapf, MM.Q.strs_mapf, MM.Q.ints_mapf, MM.Q.bools_mapf, MM.Q.join_ones_some, MM.Q.sl_own, MM.Q.sl_ref, MM.Q.sl_list, MM.Q.slO_some, MM.Q.add_own, MM.Q.add_ref, MM.Q.add_list, MM.Q.catO_some, MM.Q.cutL_map, MM.Q.mg_tupL, MM.Q.ev_ch, MM.Q.ev_ch1, MM.Q.ev_ch2, MM.Q.ch_t, MM.Q.ch_f, MM.Q.ev_ch3, MM.Q.starts_str, MM.Q.ends_str, MM.Q.upper_str, MM.Q.part_str, MM.Q.ev_fmt, MM.Q.ev_fmtR, MM.Q.fmt_st, MM.Q.fmt_int, MM.Q.ev_js_nil, MM.Q.ev_js_cons, MM.Q.ev_js1, MM.Q.ev_js2, MM.Q.jsF_some, MM.Q.js_st, MM.Q.ev_pr_nil, MM.Q.ev_pr_cons, MM.Q.ev_pr1, MM.Q.ev_pr2, MM.Q.ev_pr3, MM.Q.ev_dct, MM.Q.ev_dct1, MM.Q.keys_one, MM.Q.dctF_one, MM.Q.tup_list, MM.Q.tup_tup, MM.Q.tup_st, MM.Q.lst_st, MM.Q.mul_list, MM.Q.mul_tup, MM.Q.ev_popK, MM.Q.in_own, MM.Q.in_ref, MM.Q.in_list, MM.Q.inO_t, MM.Q.inO_f, MM.Q.b2i_t, MM.Q.b2i_f, MM.Q.int_int, MM.Q.int_bool, MM.Q.ev_rg2, MM.Q.rg2_int, MM.Q.ev_en, MM.Q.en_list, MM.Q.en_tup, MM.Q.en_st, MM.Q.ev_sortSc, MM.Q.ev_lenSc, MM.Q.ev_sc1, MM.Q.ev_scL1, MM.Q.ev_sc2, MM.Q.ev_scL2, 
  List.map_cons, List.map_nil, List.length_cons, List.length_nil, List.append_nil, List.nil_append, List.cons_append, List.getElem?_cons_zero, List.getElem?_cons_succ, List.set_cons_zero, List.set_cons_succ, Bool.and_true, Bool.true_and, Option.bind_some, Option.map_some, Nat.reduceAdd, Nat.reduceSub, Nat.add_sub_cancel, Nat.sub_self])
--- imports lab
theorem word_nil : wordB [] = false := by decide
theorem spec_is_name {S : Sg} {l : List Nat} (hl : l.length ≤ 1000000) (hk : ∀ c ∈ l, c < 0x110000) : f_is_name [.d (.str (Q.st l))] S = .ok (.d (.bool (calB l))) S := by
  have hs : l.length ≤ sizeLine := by rw [PySem.sizeLine_eq]; omega
  have so : ∀ c : Nat, c < 0x110000 → SeqAt.shaped (.str (Q.st [c])) = true := fun c hc => Q.ok_st fun d hd => by rw [List.mem_singleton.mp hd]; exact hc
  have k45 := so 45 (by decide)
  unfold f_is_name m_is_name calB
  walk_at "mm"
  simp only [Bool.not_true]
  walk_at "mm"
  rw [show k_BETWEEN = Q.st [45] from by decide +kernel, show k_BEGIN = Q.st [35] from by decide +kernel, show k_END = Q.st [59] from by decide +kernel]
  by_cases h3 : 11 ≤ l.length
  · simp only [decide_eq_false (show ¬ ((l.length : Nat) : Int) ≤ 9 + 1 by omega)]
    walk_at "mm"
    obtain ⟨d, e1, e2⟩ := at9 (l := l) (by omega)
    have kd := so d (hk d (List.mem_of_getElem? e2))
    rw [e1, e2]
    walk_at "mm"
    rw [one_eq]
    by_cases h4 : d = 45
    · simp only [h4, decide_true, Bool.not_true]
      walk_at "mm"
      rw [Q.starts_one]
      by_cases h1 : l.take 1 = [35]
      · simp only [decide_eq_true h1, Bool.not_true]
        walk_at "mm"
        rw [Q.ends_one]
        by_cases h2 : l.drop (l.length - 1) = [59]
        · simp only [decide_eq_true h2, Bool.not_true]
          walk_at "mm"
          rw [show Q.cutL l (some 1) (some 9) = mrkL l from rfl, spec_is_mark (Nat.le_trans len_mrk hl)]
          walk_at "mm"
          cases hm : markB (mrkL l) with
          | false =>
            walk_at "mm"
            rw [Bool.false_and, Bool.and_false]
          | true =>
            walk_at "mm"
            rw [show Q.cutL l (some (9 + 1)) (some (-1)) = midL l from rfl, spec_is_label (Nat.le_trans len_mid hl)]
            walk_at "mm"
            by_cases h12 : 12 ≤ l.length
            · rw [decide_eq_true h12, Bool.true_and]
            · rw [mid_short (by omega), word_nil, Bool.and_false]
        · simp only [decide_eq_false h2, Bool.not_false, Bool.false_and]
          walk_at "mm"
      · simp only [decide_eq_false h1, Bool.not_false, Bool.false_and]
        walk_at "mm"
    · simp only [h4, decide_false, Bool.not_false, show ¬ (some d = some 45) from fun e => h4 (Option.some.inj e), Bool.false_and, Bool.and_false]
      walk_at "mm"
  · simp only [decide_eq_true (show ((l.length : Nat) : Int) ≤ 9 + 1 by omega), decide_eq_false (show ¬ 12 ≤ l.length by omega), Bool.false_and, Bool.and_false]
    walk_at "mm"
section
variable {S : Sg} {d : PyData}
theorem name_no (h : noStr d = true) : f_is_name [.d d] S = .ok (.d (.bool false)) S := by
  unfold f_is_name m_is_name
  walk_at "mm"
  rw [isi_no h]
  walk_at "mm"
  simp only [Bool.not_false]
  walk_at "mm"
end

end Law
end
section
set_option Elab.async false
set_option linter.all false
set_option maxRecDepth 100000
set_option maxHeartbeats 4000000
set_option autoImplicit false
namespace Law
open PySem PySem.Spec PyProof.Rows L2 MM
local macro_rules | `(tactic| walk_at "mm") => `(tactic| simp (disch := first | assumption | omega | exact MM.Q.shaped_int | exact MM.Q.shaped_nil | exact MM.Q.shaped_ints | exact MM.Q.shaped_bool | (refine of_eq_true (eq_true ?_); first | with_unfolding_all rfl | (simp only [MM.Q.free_d, MM.Q.free_ref, MM.Q.free_adr, MM.Q.frees_nil, MM.Q.frees_cons, MM.Q.frees_map, Bool.and_true, Bool.true_and]; done)) | (simp only [List.length_cons, List.length_nil, List.append_nil, List.map_cons, List.map_nil, List.length_append, List.length_map, List.length_reverse, MM.Q.dI_len, PySem.sizeLine_eq]; omega)) only [MM.Q.bind_ok, MM.Q.bind_exc, MM.Q.go_ok, MM.Q.go_exc, MM.Q.nox_ok, MM.Q.vr_some, MM.Q.ev_var, MM.Q.ev_c, MM.Q.ev_k, MM.Q.frzO_some, MM.Q.tupO_some, MM.Q.tupO_none, MM.Q.bear_val, MM.Q.bear_frz, MM.Q.bear_ref, MM.Q.bear_own, MM.Q.bear_tup, MM.Q.allD_nil, MM.Q.allD_cons, MM.Q.allD_map, MM.Q.bearO_some, MM.Q.ev_bin, MM.Q.ev_bin1, MM.Q.ev_bin2, MM.Q.add_int, MM.Q.sub_int, MM.Q.mul_int, MM.Q.mod_int, MM.Q.fdiv_int, MM.Q.pow_int, MM.Q.intB_int, MM.Q.datO_f, MM.Q.datO_t, MM.Q.data_d, MM.Q.data_ref, MM.Q.data_own, MM.Q.ev_eq_r, MM.Q.ev_eq_o, MM.Q.ev_eq_l, MM.Q.ev_eq_t, MM.Q.ev_eq_i, MM.Q.ev_eq_b, MM.Q.ev_eq_n, MM.Q.ev_eq_st, MM.Q.ev_eq_sf, MM.Q.eqO_some, MM.Q.eqC_t, MM.Q.eqC_f, MM.Q.eqv_nil, MM.Q.eqv_int, MM.Q.eqv_bool, MM.Q.in_str, MM.Q.notIn_str, MM.Q.is_bool, MM.Q.isnot_bool, MM.Q.tst_bool, MM.Q.ev_tst, MM.Q.ev_truth, MM.Q.ev_tru, MM.Q.truO_some, MM.Q.truth_bool, MM.Q.truth_int, MM.Q.truth_none, MM.Q.truth_list, MM.Q.truth_tup, MM.Q.ev_andB, MM.Q.ev_orB, MM.Q.ev_notB, MM.Q.andB_t, MM.Q.andB_f, MM.Q.orB_t, MM.Q.orB_f, MM.Q.ev_notB1, MM.Q.ev_and, MM.Q.ev_or, MM.Q.and_tB, MM.Q.and_fB, MM.Q.or_tB, MM.Q.or_fB, MM.Q.ev_not, MM.Q.ev_not1, MM.Q.notO_some, MM.Q.ev_ifE, MM.Q.ifE_t, MM.Q.ifE_f, MM.Q.ev_nil, MM.Q.ev_cons, MM.Q.ev_cons1, MM.Q.ev_cons2, MM.Q.ev_disp, MM.Q.disp_lst, MM.Q.disp_tup, MM.Q.frees_nil, MM.Q.frees_cons, MM.Q.free_d, MM.Q.free_ref, MM.Q.free_adr, MM.Q.dI_snoc, MM.Q.dI_len, MM.Q.allD_dI, MM.Q.dI_nil, MM.Q.allD_dIs, MM.Q.frees_map, MM.Q.ev_cb, MM.Q.ev_cb1, MM.Q.ev_call, MM.Q.ev_call1, MM.Q.ev_call0, MM.Q.ev_callK, MM.Q.ev_callK1, MM.Q.ev_callK2, MM.Q.ldd_some, MM.Q.laid_nil, MM.Q.laid_k, MM.Q.laid_p, MM.Q.ixO_some, MM.Q.ev_ix, MM.Q.ev_ix1, MM.Q.ev_ix2, MM.Q.ix_list, MM.Q.ix_tup, MM.Q.refS_lst, MM.Q.refS_tup, MM.Q.seq_ref, MM.Q.seq_own, MM.Q.seq_list, MM.Q.seq_tup, MM.Q.ixK_some, MM.Q.ix_ref, MM.Q.ix_own, MM.Q.listO_f, MM.Q.ev_list, MM.Q.at0, MM.Q.at1, MM.Q.at2, MM.Q.at3, MM.Q.at4, MM.Q.ixN0, MM.Q.ixN1, MM.Q.ixN2, MM.Q.ev_oN, MM.Q.ev_oS, MM.Q.oS_int, MM.Q.ev_sl, MM.Q.ev_sl1, MM.Q.ev_sl2, MM.Q.ev_sl3, MM.Q.ev_rev, MM.Q.rev_list, MM.Q.ev_bm, MM.Q.ev_bm1, MM.Q.cBM_t, MM.Q.ev_bm2, MM.Q.buO_some, MM.Q.ev_bu, MM.Q.ev_bu1, MM.Q.cBU_t, MM.Q.ev_bu2, MM.Q.ty_str, MM.Q.tyO_some, MM.Q.ty_ref, MM.Q.ty_own, MM.Q.ty_list, MM.Q.beq_ll, MM.Q.beq_ss, MM.Q.celO_some, MM.Q.cell_ref, MM.Q.cell_own, MM.Q.ev_append, MM.Q.appO_some, MM.Q.ev_extend, MM.Q.extO_some, MM.Q.ev_pop, MM.Q.popO_snoc, MM.Q.ev_ind, MM.Q.ev_ind1, MM.Q.ev_neg, MM.Q.neg_int, MM.Q.ev_iter, MM.Q.ev_it, MM.Q.itO_some, MM.Q.items_list, MM.Q.items_tup, MM.Q.ev_rg1, MM.Q.rg1_int, MM.Q.ev_lc, MM.Q.ev_lc1, MM.Q.ev_lc2, MM.Q.wipe_nil, MM.Q.wipe_cons, MM.Q.ev_seq, MM.Q.seq_nx, MM.Q.seq_rt, MM.Q.seq_exc, MM.Q.seq_bk, MM.Q.seq_ct, MM.Q.ev_asg, MM.Q.ev_asg1, MM.Q.nxO_some, MM.Q.mg_name, MM.Q.mg_nil, MM.Q.mg_consN, MM.Q.mg_tup, MM.Q.ev_expr, MM.Q.ev_expr1, MM.Q.ev_ret, MM.Q.ev_ret1, MM.Q.ev_retN, MM.Q.ev_skip, MM.Q.ev_brk, MM.Q.ev_cnt, MM.Q.ev_if, MM.Q.if_t, MM.Q.if_f, MM.Q.ev_for, MM.Q.ev_for1, MM.Q.ev_fz, MM.Q.fz_own, MM.Q.fzC_some, MM.Q.fzO_some, MM.Q.fz_d, MM.Q.fz_ref, MM.Q.stO_some, MM.Q.ev_st, MM.Q.ev_st1, MM.Q.ev_st2, MM.Q.ev_st3, MM.Q.ev_setIx, MM.Q.siO_some, MM.Q.ev_par, MM.Q.ev_par1, MM.Q.nones_zero, MM.Q.nones_succ, MM.Q.begin_eq, draw_int, dS_len, dS_app, dS_get, dS_set, sg_app, sg_app2, ag0, ag1, ag2, ag3, as0, as1, as2, as3, al1, al2, al3, dS_trim, dS_trim0, dS_trimc, Int.reduceToNat, Int.toNat_natCast, List.length_map, decide_true, decide_false, Bool.not_true, Bool.not_false, Bool.false_and, Bool.and_false, Bool.true_or, Bool.or_true, Bool.or_false, Bool.false_or, ne_eq, not_true_eq_false, not_false_eq_true, beq_self_eq_true,  MM.Q.ev_fn, MM.Q.fin_rt, MM.Q.fin_ref, MM.Q.fin_nx, MM.Q.trim_same, MM.Q.trim_app, MM.Q.ev_len, MM.Q.ev_lst_l, MM.Q.ev_lst_t, MM.Q.ev_lst_r, MM.Q.ev_lst_o, MM.Q.ev_l1, MM.Q.ev_sum, MM.Q.ev_all, MM.Q.ev_any, MM.Q.ev_isi, MM.Q.kind_str, MM.Q.kind_int, MM.Q.kind_bool, MM.Q.kind_none, MM.Q.kind_dict, MM.Q.kind_list, MM.Q.kind_tup, MM.Q.kit_ss, MM.Q.kit_is, MM.Q.kit_bs, MM.Q.kit_ns, MM.Q.kit_ds, MM.Q.kit_ls, MM.Q.kit_ts, MM.Q.ev_repr, MM.Q.ev_join, MM.Q.lenO_some, MM.Q.len_list, MM.Q.len_tup, MM.Q.lnO_some, MM.Q.len_ref, MM.Q.len_own, MM.Q.lisO_some, MM.Q.l1O_some, MM.Q.ints_map, MM.Q.bools_map, MM.Q.strs_map, MM.Q.isiO_some, MM.Q.jnO_some, MM.Q.len_st, MM.Q.add_st, MM.Q.mul_st, MM.Q.ix_st, MM.Q.sl_st, MM.Q.rev_st, MM.Q.eqv_st, MM.Q.st_dec, MM.Q.divmod_int, MM.Q.items_st, MM.Q.allD_mapf, MM.Q.strs_mapf, MM.Q.ints_mapf, MM.Q.bools_mapf, MM.Q.join_ones_some, MM.Q.sl_own, MM.Q.sl_ref, MM.Q.sl_list, MM.Q.slO_some, MM.Q.add_own, MM.Q.add_ref, MM.Q.add_list, MM.Q.catO_some, MM.Q.cutL_map, MM.Q.mg_tupL, MM.Q.ev_ch, MM.Q.ev_ch1, MM.Q.ev_ch2, MM.Q.ch_t, MM.Q.ch_f, MM.Q.ev_ch3, MM.Q.starts_str, MM.Q.ends_str, MM.Q.upper_str, MM.Q.part_str, MM.Q.ev_fmt, MM.Q.ev_fmtR, MM.Q.fmt_st, MM.Q.fmt_int, MM.Q.ev_js_nil, MM.Q.ev_js_cons, MM.Q.ev_js1, MM.Q.ev_js2, MM.Q.jsF_some, MM.Q.js_st, MM.Q.ev_pr_nil, MM.Q.ev_pr_cons, MM.Q.ev_pr1, MM.Q.ev_pr2, MM.Q.ev_pr3, MM.Q.ev_dct, MM.Q.ev_dct1, MM.Q.keys_one, MM.Q.dctF_one, MM.Q.tup_list, MM.Q.tup_tup, MM.Q.tup_st, MM.Q.lst_st, MM.Q.mul_list, MM.Q.mul_tup, MM.Q.ev_popK, MM.Q.in_own, MM.Q.in_ref, MM.Q.in_list, MM.Q.inO_t, MM.Q.inO_f, MM.Q.b2i_t, MM.Q.b2i_f, MM.Q.int_int, MM.Q.int_bool, MM.Q.ev_rg2, MM.Q.rg2_int, MM.Q.ev_en, MM.Q.en_list, MM.Q.en_tup, MM.Q.en_st, MM.Q.ev_sortSc, MM.Q.ev_lenSc, MM.Q.ev_sc1, MM.Q.ev_scL1, MM.Q.ev_sc2, MM.Q.ev_scL2, 
  List.map_cons, List.map_nil, List.length_cons, List.length_nil, List.append_nil, List.nil_append, List.cons_append, List.getElem?_cons_zero, List.getElem?_cons_succ, List.set_cons_zero, List.set_cons_succ, Bool.and_true, Bool.true_and, Option.bind_some, Option.map_some, Nat.reduceAdd, Nat.reduceSub, Nat.add_sub_cancel, Nat.sub_self])
--- imports +b nshape name
theorem cutL_nat {α : Type} {l : List α} {a b : Nat} (h : a ≤ b) : Q.cutL l (some (a : Int)) (some (b : Int)) = (l.drop a).take (b - a) := by
  unfold Q.cutL
  rw [HT.sIx_nat, HT.sIx_nat]
  rcases Nat.le_total a l.length with h1 | h1
  · rw [Nat.min_eq_left h1]
    rcases Nat.le_total b l.length with h2 | h2
    · rw [Nat.min_eq_left h2]
    · rw [Nat.min_eq_right h2, List.take_of_length_le (by rw [List.length_drop]; omega), List.take_of_length_le (by rw [List.length_drop]; omega)]
  · rw [Nat.min_eq_right h1, Nat.min_eq_right (by omega), List.drop_of_length_le h1, List.drop_of_length_le (Nat.le_refl _), List.take_nil, List.take_nil]
def optS : Option (List Nat) → PyData
  | some n => pS n
  | none => .none
theorem spec_name_at {S : Sg} {l : List Nat} {at_ : Nat} (hl : l.length ≤ 1000000) (hk : ∀ c ∈ l, c < 0x110000) : f_name_at [mS l, .d (.int (at_ : Nat))] S = .ok (.d (optS (nameAt (l.drop at_)))) S := by
  have h16 : sizeLine = 16777216 := PySem.sizeLine_eq
  unfold f_name_at m_name_at
  walk_at "mm"
  rw [show k_END = Q.st [59] from by decide +kernel, show (at_ : Int) + 19 = ((at_ + 19 : Nat) : Int) by omega, cutL_nat (by omega), show at_ + 19 - at_ = 19 by omega]
  unfold nameAt
  generalize hp : (l.drop at_).take 19 = p
  have lp : p.length ≤ 19 := by rw [← hp]; exact List.length_take_le ..
  have kp : ∀ c ∈ p, c < 0x110000 := fun c hc => hk c (List.mem_of_mem_drop (List.mem_of_mem_take (by rw [hp]; exact hc)))
  have lh := (hd59_pre p).length_le
  have kh : ∀ c ∈ hd59 p, c < 0x110000 := fun c hc => kp c ((hd59_pre p).subset hc)
  rw [Q.part_str ⟨rfl, by rw [Q.st_len]; omega⟩]
  rcases hd59_cases p with ⟨a, b, h1, h2, h3⟩ | ⟨h1, h2⟩
  · rw [h2, Q.part_at h1, ← h2, h3]
    have la : a.length + 1 ≤ 19 := by rw [h3] at lh; simpa using Nat.le_trans lh lp
    rw [h3] at kh
    walk_at "mm"
    rw [spec_is_name (by rw [List.length_append, List.length_singleton]; omega) kh]
    walk_at "mm"
    cases hc : calB (a ++ [59]) with
    | true => walk_at "mm"; rw [if_pos trivial]; rfl
    | false => walk_at "mm"; rw [if_neg (by decide)]; rfl
  · rw [Q.part_no h1, h2]
    rw [h2] at kh
    walk_at "mm"
    rw [spec_is_name (by omega) kh]
    walk_at "mm"
    cases hc : calB p with
    | true => walk_at "mm"; rw [if_pos trivial]; rfl
    | false => walk_at "mm"; rw [if_neg (by decide)]; rfl
theorem optS_data {o : Option (List Nat)} : Mv.d (optS o) = .d (optS o) := rfl
theorem fltr_map {α : Type} {p q : α → Bool} {l : List α} : (l.filter p).filter q = l.filter fun a => q a && p a := List.filter_filter
/-- where a name begins, and which -/
def foundL (w : List Nat) : List PyData := (w.zipIdx.filter fun p => p.1 == 35).map fun p => .tuple [.int (p.2 : Nat), optS (nameAt (w.drop p.2))]
def placesL (w : List Nat) : List (Nat × List Nat) := (w.zipIdx.filter fun p => p.1 == 35).filterMap fun p => (nameAt (w.drop p.2)).map fun n => (p.2, n)
theorem places_names {w : List Nat} : (placesL w).map (·.2) = namesL w := by
  unfold placesL namesL
  rw [List.map_filterMap]
  congr 1
  funext p
  cases nameAt (w.drop p.2) <;> rfl
theorem places_eq {f : Nat × Nat → Option (List Nat)} {Z : List (Nat × Nat)} : (Z.filter fun a => (f a).isSome).map (fun a => Mv.d (.tuple [.int (a.2 : Nat), optS (f a)])) = (Z.filterMap fun p => (f p).map fun n => (p.2, n)).map fun p => Mv.d (.tuple [.int (p.1 : Nat), pS p.2]) := by
  induction Z with
  | nil => rfl
  | cons a r ih =>
    cases e : f a with
    | none => rw [List.filter_cons_of_neg (by rw [e]; decide), List.filterMap_cons_none (by rw [e]; rfl), ih]
    | some n => rw [List.filter_cons_of_pos (by rw [e]; rfl), List.filterMap_cons_some (by rw [e]; rfl), List.map_cons, List.map_cons, ih, e]; rfl
theorem spec_places_in {S : Sg} {l : List Nat} (hl : l.length ≤ 100000) (hk : ∀ c ∈ l, c < 0x110000) : f_places_in [mS l] S = .ok (.d (.list ((placesL l).map fun p => .tuple [.int (p.1 : Nat), pS p.2]))) S := by
  have h16 : sizeLine = 16777216 := PySem.sizeLine_eq
  have so : ∀ c : Nat, c < 0x110000 → SeqAt.shaped (.str (Q.st [c])) = true := fun c hc => Q.ok_st fun d hd => by rw [List.mem_singleton.mp hd]; exact hc
  have k35 := so 35 (by decide)
  have hz : l.zipIdx.length = l.length := List.length_zipIdx
  unfold f_places_in m_places_in
  walk_at "mm"
  rw [@Q.lc_filterF _ S (Nat × Nat) (mgTup 2 (mgCons (mgName 2) (mgCons (mgName 3) mgNil))) t_places_in_1 e_places_in_1 (fun p => .d (.tuple [.int (p.2 : Nat), .str (Q.st [p.1])])) (fun p => .d (.tuple [.int (p.2 : Nat), optS (nameAt (l.drop p.2))])) (fun p => p.1 == 35) l.zipIdx [] (fun p hp => by
    have hc : p.1 ∈ l := List.fst_mem_of_mem_zipIdx hp
    have kp := so p.1 (hk _ hc)
    refine ⟨[some (mS l), none, some (.d (.int (p.2 : Nat))), some (mS [p.1]), none], rfl, ?_, fun _ => ⟨?_, rfl⟩⟩
    · unfold t_places_in_1
      walk_at "mm"
      rw [show k_BEGIN = Q.st [35] from by decide +kernel]
      walk_at "mm"
      rw [one_eq]
      rfl
    · unfold e_places_in_1
      walk_at "mm"
      rw [spec_name_at (by omega) hk]
      walk_at "mm") (by rw [hz, List.length_nil]; omega)]
  walk_at "mm"
  rw [List.map_map, @Q.lc_filterF _ S (Nat × Nat) (mgTup 2 (mgCons (mgName 2) (mgCons (mgName 4) mgNil))) t_places_in_2 e_places_in_2 (Mv.d ∘ fun p => .tuple [.int (p.2 : Nat), optS (nameAt (l.drop p.2))]) (fun p => .d (.tuple [.int (p.2 : Nat), optS (nameAt (l.drop p.2))])) (fun p => (nameAt (l.drop p.2)).isSome) (l.zipIdx.filter fun p => p.1 == 35) [] (fun p hp => by
    refine ⟨[some (mS l), _, some (.d (.int (p.2 : Nat))), none, some (.d (optS (nameAt (l.drop p.2))))], rfl, ?_, fun _ => ⟨?_, rfl⟩⟩
    · unfold t_places_in_2
      walk_at "mm"
      cases nameAt (l.drop p.2) <;> rfl
    · unfold e_places_in_2
      walk_at "mm") (by rw [List.length_nil]; have := List.length_filter_le (fun p : Nat × Nat => p.1 == 35) l.zipIdx; omega)]
  rw [places_eq (f := fun p => nameAt (l.drop p.2))]
  rw [show (List.filterMap (fun p : Nat × Nat => (nameAt (l.drop p.2)).map fun n => (p.2, n)) (l.zipIdx.filter fun p => p.1 == 35)) = placesL l from rfl]
  walk_at "mm"
theorem spec_names_in {S : Sg} {l : List Nat} (hl : l.length ≤ 4000) (hk : ∀ c ∈ l, c < 0x110000) : f_names_in [mS l] S = .ok (.d (.tuple ((Q.sset (namesL l)).map pS))) S := by
  have h16 : sizeLine = 16777216 := PySem.sizeLine_eq
  have hp : (placesL l).length ≤ l.length := by
    have h1 := List.length_filterMap_le (fun p : Nat × Nat => (nameAt (l.drop p.2)).map fun n => (p.2, n)) (l.zipIdx.filter fun p => p.1 == 35)
    have h2 := List.length_filter_le (fun p : Nat × Nat => p.1 == 35) l.zipIdx
    rw [List.length_zipIdx] at h2
    exact Nat.le_trans h1 h2
  have hn : (namesL l).length ≤ l.length := by rw [← places_names, List.length_map]; exact hp
  have hs : (Q.sset (namesL l)).length ≤ l.length := Nat.le_trans Q.sset_len hn
  unfold f_names_in m_names_in
  walk_at "mm"
  rw [spec_places_in (by omega) hk]
  walk_at "mm"
  rw [List.map_map, show ([] : List Key) = [].map Q.K from rfl, @Q.sc_filterF S _ (Nat × List Nat) (mgTup 2 (mgCons (mgName 1) (mgCons (mgName 2) mgNil))) mYes (mVar 2) (Mv.d ∘ fun p => .tuple [.int (p.1 : Nat), pS p.2]) (·.2) (fun _ => true) (placesL l) [] (fun p hp => ⟨[some (mS l), some (.d (.int (p.1 : Nat))), some (mS p.2)], rfl, rfl, fun _ => rfl⟩) (by rw [List.length_nil]; omega)]
  rw [List.filter_eq_self.mpr (fun _ _ => rfl), places_names]
  walk_at "mm"
  rw [Q.sortK_st]
  · rw [show Q.srt (Q.uniq [] (namesL l)) = Q.sset (namesL l) from rfl]
    walk_at "mm"
    done
  · intro n hn c hc
    rw [Q.uniq_mem] at hn
    obtain ⟨h, i⟩ := namesL_mem.mp (hn.elim (fun z => nomatch z) id)
    exact hk c (i.subset hc)

end Law
end
section
set_option Elab.async false
set_option linter.all false
set_option maxRecDepth 100000
set_option maxHeartbeats 4000000
set_option autoImplicit false
namespace Law
open PySem PySem.Spec PyProof.Rows L2 MM
local macro_rules | `(tactic| walk_at "mm") => `(tactic| simp (disch := first | assumption | omega | exact MM.Q.shaped_int | exact MM.Q.shaped_nil | exact MM.Q.shaped_ints | exact MM.Q.shaped_bool | (refine of_eq_true (eq_true ?_); first | with_unfolding_all rfl | (simp only [MM.Q.free_d, MM.Q.free_ref, MM.Q.free_adr, MM.Q.frees_nil, MM.Q.frees_cons, MM.Q.frees_map, Bool.and_true, Bool.true_and]; done)) | (simp only [List.length_cons, List.length_nil, List.append_nil, List.map_cons, List.map_nil, List.length_append, List.length_map, List.length_reverse, MM.Q.dI_len, PySem.sizeLine_eq]; omega)) only [MM.Q.bind_ok, MM.Q.bind_exc, MM.Q.go_ok, MM.Q.go_exc, MM.Q.nox_ok, MM.Q.vr_some, MM.Q.ev_var, MM.Q.ev_c, MM.Q.ev_k, MM.Q.frzO_some, MM.Q.tupO_some, MM.Q.tupO_none, MM.Q.bear_val, MM.Q.bear_frz, MM.Q.bear_ref, MM.Q.bear_own, MM.Q.bear_tup, MM.Q.allD_nil, MM.Q.allD_cons, MM.Q.allD_map, MM.Q.bearO_some, MM.Q.ev_bin, MM.Q.ev_bin1, MM.Q.ev_bin2, MM.Q.add_int, MM.Q.sub_int, MM.Q.mul_int, MM.Q.mod_int, MM.Q.fdiv_int, MM.Q.pow_int, MM.Q.intB_int, MM.Q.datO_f, MM.Q.datO_t, MM.Q.data_d, MM.Q.data_ref, MM.Q.data_own, MM.Q.ev_eq_r, MM.Q.ev_eq_o, MM.Q.ev_eq_l, MM.Q.ev_eq_t, MM.Q.ev_eq_i, MM.Q.ev_eq_b, MM.Q.ev_eq_n, MM.Q.ev_eq_st, MM.Q.ev_eq_sf, MM.Q.eqO_some, MM.Q.eqC_t, MM.Q.eqC_f, MM.Q.eqv_nil, MM.Q.eqv_int, MM.Q.eqv_bool, MM.Q.in_str, MM.Q.notIn_str, MM.Q.is_bool, MM.Q.isnot_bool, MM.Q.tst_bool, MM.Q.ev_tst, MM.Q.ev_truth, MM.Q.ev_tru, MM.Q.truO_some, MM.Q.truth_bool, MM.Q.truth_int, MM.Q.truth_none, MM.Q.truth_list, MM.Q.truth_tup, MM.Q.ev_andB, MM.Q.ev_orB, MM.Q.ev_notB, MM.Q.andB_t, MM.Q.andB_f, MM.Q.orB_t, MM.Q.orB_f, MM.Q.ev_notB1, MM.Q.ev_and, MM.Q.ev_or, MM.Q.and_tB, MM.Q.and_fB, MM.Q.or_tB, MM.Q.or_fB, MM.Q.ev_not, MM.Q.ev_not1, MM.Q.notO_some, MM.Q.ev_ifE, MM.Q.ifE_t, MM.Q.ifE_f, MM.Q.ev_nil, MM.Q.ev_cons, MM.Q.ev_cons1, MM.Q.ev_cons2, MM.Q.ev_disp, MM.Q.disp_lst, MM.Q.disp_tup, MM.Q.frees_nil, MM.Q.frees_cons, MM.Q.free_d, MM.Q.free_ref, MM.Q.free_adr, MM.Q.dI_snoc, MM.Q.dI_len, MM.Q.allD_dI, MM.Q.dI_nil, MM.Q.allD_dIs, MM.Q.frees_map, MM.Q.ev_cb, MM.Q.ev_cb1, MM.Q.ev_call, MM.Q.ev_call1, MM.Q.ev_call0, MM.Q.ev_callK, MM.Q.ev_callK1, MM.Q.ev_callK2, MM.Q.ldd_some, MM.Q.laid_nil, MM.Q.laid_k, MM.Q.laid_p, MM.Q.ixO_some, MM.Q.ev_ix, MM.Q.ev_ix1, MM.Q.ev_ix2, MM.Q.ix_list, MM.Q.ix_tup, MM.Q.refS_lst, MM.Q.refS_tup, MM.Q.seq_ref, MM.Q.seq_own, MM.Q.seq_list, MM.Q.seq_tup, MM.Q.ixK_some, MM.Q.ix_ref, MM.Q.ix_own, MM.Q.listO_f, MM.Q.ev_list, MM.Q.at0, MM.Q.at1, MM.Q.at2, MM.Q.at3, MM.Q.at4, MM.Q.ixN0, MM.Q.ixN1, MM.Q.ixN2, MM.Q.ev_oN, MM.Q.ev_oS, MM.Q.oS_int, MM.Q.ev_sl, MM.Q.ev_sl1, MM.Q.ev_sl2, MM.Q.ev_sl3, MM.Q.ev_rev, MM.Q.rev_list, MM.Q.ev_bm, MM.Q.ev_bm1, MM.Q.cBM_t, MM.Q.ev_bm2, MM.Q.buO_some, MM.Q.ev_bu, MM.Q.ev_bu1, MM.Q.cBU_t, MM.Q.ev_bu2, MM.Q.ty_str, MM.Q.tyO_some, MM.Q.ty_ref, MM.Q.ty_own, MM.Q.ty_list, MM.Q.beq_ll, MM.Q.beq_ss, MM.Q.celO_some, MM.Q.cell_ref, MM.Q.cell_own, MM.Q.ev_append, MM.Q.appO_some, MM.Q.ev_extend, MM.Q.extO_some, MM.Q.ev_pop, MM.Q.popO_snoc, MM.Q.ev_ind, MM.Q.ev_ind1, MM.Q.ev_neg, MM.Q.neg_int, MM.Q.ev_iter, MM.Q.ev_it, MM.Q.itO_some, MM.Q.items_list, MM.Q.items_tup, MM.Q.ev_rg1, MM.Q.rg1_int, MM.Q.ev_lc, MM.Q.ev_lc1, MM.Q.ev_lc2, MM.Q.wipe_nil, MM.Q.wipe_cons, MM.Q.ev_seq, MM.Q.seq_nx, MM.Q.seq_rt, MM.Q.seq_exc, MM.Q.seq_bk, MM.Q.seq_ct, MM.Q.ev_asg, MM.Q.ev_asg1, MM.Q.nxO_some, MM.Q.mg_name, MM.Q.mg_nil, MM.Q.mg_consN, MM.Q.mg_tup, MM.Q.ev_expr, MM.Q.ev_expr1, MM.Q.ev_ret, MM.Q.ev_ret1, MM.Q.ev_retN, MM.Q.ev_skip, MM.Q.ev_brk, MM.Q.ev_cnt, MM.Q.ev_if, MM.Q.if_t, MM.Q.if_f, MM.Q.ev_for, MM.Q.ev_for1, MM.Q.ev_fz, MM.Q.fz_own, MM.Q.fzC_some, MM.Q.fzO_some, MM.Q.fz_d, MM.Q.fz_ref, MM.Q.stO_some, MM.Q.ev_st, MM.Q.ev_st1, MM.Q.ev_st2, MM.Q.ev_st3, MM.Q.ev_setIx, MM.Q.siO_some, MM.Q.ev_par, MM.Q.ev_par1, MM.Q.nones_zero, MM.Q.nones_succ, MM.Q.begin_eq,  MM.Q.ev_fn, MM.Q.fin_rt, MM.Q.fin_ref, MM.Q.fin_nx, MM.Q.trim_same, MM.Q.trim_app, MM.Q.ev_len, MM.Q.ev_lst_l, MM.Q.ev_lst_t, MM.Q.ev_lst_r, MM.Q.ev_lst_o, MM.Q.ev_l1, MM.Q.ev_sum, MM.Q.ev_all, MM.Q.ev_any, MM.Q.ev_isi, MM.Q.kind_str, MM.Q.kind_int, MM.Q.kind_bool, MM.Q.kind_none, MM.Q.kind_dict, MM.Q.kind_list, MM.Q.kind_tup, MM.Q.kit_ss, MM.Q.kit_is, MM.Q.kit_bs, MM.Q.kit_ns, MM.Q.kit_ds, MM.Q.kit_ls, MM.Q.kit_ts, MM.Q.ev_repr, MM.Q.ev_join, MM.Q.lenO_some, MM.Q.len_list, MM.Q.len_tup, MM.Q.lnO_some, MM.Q.len_ref, MM.Q.len_own, MM.Q.lisO_some, MM.Q.l1O_some, MM.Q.ints_map, MM.Q.bools_map, MM.Q.strs_map, MM.Q.isiO_some, MM.Q.jnO_some, MM.Q.len_st, MM.Q.add_st, MM.Q.mul_st, MM.Q.ix_st, MM.Q.sl_st, MM.Q.rev_st, MM.Q.eqv_st, MM.Q.st_dec, MM.Q.divmod_int, MM.Q.items_st, MM.Q.allD_mapf, MM.Q.strs_mapf, MM.Q.ints_mapf, MM.Q.bools_mapf, MM.Q.join_ones_some, MM.Q.sl_own, MM.Q.sl_ref, MM.Q.sl_list, MM.Q.slO_some, MM.Q.add_own, MM.Q.add_ref, MM.Q.add_list, MM.Q.catO_some, MM.Q.cutL_map, MM.Q.mg_tupL, MM.Q.ev_ch, MM.Q.ev_ch1, MM.Q.ev_ch2, MM.Q.ch_t, MM.Q.ch_f, MM.Q.ev_ch3, MM.Q.starts_str, MM.Q.ends_str, MM.Q.upper_str, MM.Q.part_str, MM.Q.ev_fmt, MM.Q.ev_fmtR, MM.Q.fmt_st, MM.Q.fmt_int, MM.Q.ev_js_nil, MM.Q.ev_js_cons, MM.Q.ev_js1, MM.Q.ev_js2, MM.Q.jsF_some, MM.Q.js_st, MM.Q.ev_pr_nil, MM.Q.ev_pr_cons, MM.Q.ev_pr1, MM.Q.ev_pr2, MM.Q.ev_pr3, MM.Q.ev_dct, MM.Q.ev_dct1, MM.Q.keys_one, MM.Q.dctF_one, MM.Q.tup_list, MM.Q.tup_tup, MM.Q.tup_st, MM.Q.lst_st, MM.Q.mul_list, MM.Q.mul_tup, MM.Q.ev_popK, MM.Q.in_own, MM.Q.in_ref, MM.Q.in_list, MM.Q.inO_t, MM.Q.inO_f, MM.Q.b2i_t, MM.Q.b2i_f, MM.Q.int_int, MM.Q.int_bool, MM.Q.ev_rg2, MM.Q.rg2_int, MM.Q.ev_en, MM.Q.en_list, MM.Q.en_tup, MM.Q.en_st, MM.Q.ev_sortSc, MM.Q.ev_lenSc, MM.Q.ev_sc1, MM.Q.ev_scL1, MM.Q.ev_sc2, MM.Q.ev_scL2, 
  List.map_cons, List.map_nil, List.length_cons, List.length_nil, List.append_nil, List.nil_append, List.cons_append, List.getElem?_cons_zero, List.getElem?_cons_succ, List.set_cons_zero, List.set_cons_succ, Bool.and_true, Bool.true_and, Option.bind_some, Option.map_some, Nat.reduceAdd, Nat.reduceSub, Nat.add_sub_cancel, Nat.sub_self])
--- imports nos
theorem spec_L_is_word {S : Sg} {l : List Nat} (hl : l.length ≤ 1000000) (hk : ∀ c ∈ l, c < 0x110000) : f_L_is_word [.d (.str (Q.st l))] S = .ok (.d (.bool (wordB l))) S := by
  have hs : l.length ≤ sizeLine := by rw [PySem.sizeLine_eq]; omega
  unfold f_L_is_word m_L_is_word t_L_is_word_1 wordB
  walk_at "mm"
  simp only [Bool.not_true]
  walk_at "mm"
  have hsh : SeqAt.shaped (.list ((l.filter fun c => !decide (c ∈ lets)).map fun c => PyData.str (Q.st [c]))) = true := by
    have := (Q.shaped_strs (ls := (l.filter fun c => !decide (c ∈ lets)).map fun c => [c]) (fun m hm c hc => by
      obtain ⟨d, hd, rfl⟩ := List.mem_map.mp hm
      rw [List.mem_singleton.mp hc]
      exact hk d (List.mem_filter.mp hd).1)).1
    rw [List.map_map] at this
    exact this
  by_cases h1 : 1 ≤ l.length
  · simp only [decide_eq_true h1, decide_eq_true (show (1 : Int) ≤ (l.length : Nat) by omega)]
    walk_at "mm"
    by_cases h2 : l.length ≤ 8
    · simp only [decide_eq_true h2, decide_eq_true (show ((l.length : Nat) : Int) ≤ 8 by omega)]
      walk_at "mm"
      simp only [Bool.not_true]
      walk_at "mm"
      rw [lit_l, none_out (show 1 < 2 by decide) hl]
      walk_at "mm"
      rw [show (List.map (fun c => PyData.str (Q.st [c])) (List.filter (fun c => !decide (c ∈ lets)) l)).isEmpty = (List.filter (fun c => !decide (c ∈ lets)) l).isEmpty from by simp, Q.filter_not_empty]
    · simp only [decide_eq_false h2, decide_eq_false (show ¬ ((l.length : Nat) : Int) ≤ 8 by omega), Bool.false_and, Bool.and_false, Bool.not_false]
      walk_at "mm"
  · simp only [decide_eq_false h1, decide_eq_false (show ¬ (1 : Int) ≤ (l.length : Nat) by omega), Bool.false_and]
    walk_at "mm"
    simp only [Bool.not_false]
    walk_at "mm"
theorem spec_L_is_mark {S : Sg} {l : List Nat} (hl : l.length ≤ 1000000) (hk : ∀ c ∈ l, c < 0x110000) : f_L_is_mark [.d (.str (Q.st l))] S = .ok (.d (.bool (markB l))) S := by
  have hs : l.length ≤ sizeLine := by rw [PySem.sizeLine_eq]; omega
  have hsh : SeqAt.shaped (.list ((l.filter fun c => !decide (c ∈ fgs)).map fun c => PyData.str (Q.st [c]))) = true := by
    have := (Q.shaped_strs (ls := (l.filter fun c => !decide (c ∈ fgs)).map fun c => [c]) (fun m hm c hc => by
      obtain ⟨d, hd, rfl⟩ := List.mem_map.mp hm
      rw [List.mem_singleton.mp hc]
      exact hk d (List.mem_filter.mp hd).1)).1
    rw [List.map_map] at this
    exact this
  unfold f_L_is_mark m_L_is_mark t_L_is_mark_1 markB
  walk_at "mm"
  simp only [Bool.not_true]
  walk_at "mm"
  by_cases h1 : l.length = 8
  · simp only [decide_eq_true h1, show ((l.length : Nat) : Int) = 8 by omega, Q.eqv_int, beq_self_eq_true, Bool.not_true]
    walk_at "mm"
    rw [lit_f, none_out (show 1 < 2 by decide) hl]
    walk_at "mm"
    rw [show (List.map (fun c => PyData.str (Q.st [c])) (List.filter (fun c => !decide (c ∈ fgs)) l)).isEmpty = (List.filter (fun c => !decide (c ∈ fgs)) l).isEmpty from by simp, Q.filter_not_empty]
  · simp only [decide_eq_false h1, Q.eqv_int, beq_eq_false_iff_ne.mpr (show ((l.length : Nat) : Int) ≠ 8 by omega), Bool.false_and, Bool.not_false]
    walk_at "mm"

theorem spec_L_is_called {S : Sg} {l : List Nat} (hl : l.length ≤ 1000000) (hk : ∀ c ∈ l, c < 0x110000) : f_L_is_called [.d (.str (Q.st l))] S = .ok (.d (.bool (calB l))) S := by
  have hs : l.length ≤ sizeLine := by rw [PySem.sizeLine_eq]; omega
  have sh : ∀ lo hi : Option Int, SeqAt.shaped (.str (Q.st (Q.cutL l lo hi))) = true := fun lo hi => Q.ok_st fun c hc => hk c (Q.cutL_mem hc)
  have sh1 := sh none (some 1)
  have sh2 := sh (some (-1)) none
  have so : ∀ c : Nat, c < 0x110000 → SeqAt.shaped (.str (Q.st [c])) = true := fun c hc => Q.ok_st fun d hd => by rw [List.mem_singleton.mp hd]; exact hc
  have k35 := so 35 (by decide)
  have k59 := so 59 (by decide)
  have k45 := so 45 (by decide)
  unfold f_L_is_called m_L_is_called calB
  walk_at "mm"
  simp only [Bool.not_true]
  walk_at "mm"
  rw [show Str.ofString "#" = Q.st [35] from by decide +kernel]
  walk_at "mm"
  rw [Q.cutL_one]
  by_cases h1 : l.take 1 = [35]
  · simp only [decide_eq_true h1, Bool.not_true]
    walk_at "mm"
    rw [show Str.ofString ";" = Q.st [59] from by decide +kernel]
    walk_at "mm"
    rw [Q.cutL_last]
    by_cases h2 : l.drop (l.length - 1) = [59]
    · simp only [decide_eq_true h2, Bool.not_true]
      walk_at "mm"
      by_cases h3 : 12 ≤ l.length
      · simp only [decide_eq_true h3, decide_eq_false (show ¬ ((l.length : Nat) : Int) < 12 by omega)]
        walk_at "mm"
        obtain ⟨d, e1, e2⟩ := at9 (l := l) (by omega)
        have kd := so d (hk d (List.mem_of_getElem? e2))
        rw [show Str.ofString "-" = Q.st [45] from by decide +kernel, e1, e2]
        walk_at "mm"
        rw [one_eq]
        by_cases h4 : d = 45
        · simp only [h4, decide_true, Bool.not_true]
          walk_at "mm"
          rw [show Q.cutL l (some 1) (some 9) = mrkL l from rfl, spec_L_is_mark (Nat.le_trans len_mrk hl) (fun c hc => hk c (Q.cutL_mem hc))]
          walk_at "mm"
          cases hm : markB (mrkL l) with
          | false =>
            walk_at "mm"
            rw [Bool.false_and]
          | true =>
            walk_at "mm"
            rw [show Q.cutL l (some 10) (some (-1)) = midL l from rfl, spec_L_is_word (Nat.le_trans len_mid hl) (fun c hc => hk c (Q.cutL_mem hc))]
            walk_at "mm"
        · simp only [h4, decide_false, Bool.not_false, show ¬ (some d = some 45) from fun e => h4 (Option.some.inj e), Bool.false_and]
          walk_at "mm"
      · simp only [decide_eq_false h3, decide_eq_true (show ((l.length : Nat) : Int) < 12 by omega), Bool.false_and]
        walk_at "mm"
    · simp only [decide_eq_false h2, Bool.not_false, Bool.false_and]
      walk_at "mm"
  · simp only [decide_eq_false h1, Bool.not_false, Bool.false_and]
    walk_at "mm"
section
variable {S : Sg} {d : PyData}
theorem Lword_no (h : noStr d = true) : f_L_is_word [.d d] S = .ok (.d (.bool false)) S := by
  unfold f_L_is_word m_L_is_word
  walk_at "mm"
  rw [isi_no h]
  walk_at "mm"
  simp only [Bool.not_false]
  walk_at "mm"
theorem Lmark_no (h : noStr d = true) : f_L_is_mark [.d d] S = .ok (.d (.bool false)) S := by
  unfold f_L_is_mark m_L_is_mark
  walk_at "mm"
  rw [isi_no h]
  walk_at "mm"
  simp only [Bool.not_false]
  walk_at "mm"
theorem Lcalled_no (h : noStr d = true) : f_L_is_called [.d d] S = .ok (.d (.bool false)) S := by
  unfold f_L_is_called m_L_is_called
  walk_at "mm"
  rw [isi_no h]
  walk_at "mm"
  simp only [Bool.not_false]
  walk_at "mm"
end

end Law
end
section
set_option Elab.async false
set_option linter.all false
set_option maxRecDepth 100000
set_option maxHeartbeats 4000000
set_option autoImplicit false
namespace Law
open PySem PySem.Spec PyProof.Rows L2 MM
local macro_rules | `(tactic| walk_at "mm") => `(tactic| simp (disch := first | assumption | omega | exact MM.Q.shaped_int | exact MM.Q.shaped_nil | exact MM.Q.shaped_ints | exact MM.Q.shaped_bool | (refine of_eq_true (eq_true ?_); first | with_unfolding_all rfl | (simp only [MM.Q.free_d, MM.Q.free_ref, MM.Q.free_adr, MM.Q.frees_nil, MM.Q.frees_cons, MM.Q.frees_map, Bool.and_true, Bool.true_and]; done)) | (simp only [List.length_cons, List.length_nil, List.append_nil, List.map_cons, List.map_nil, List.length_append, List.length_map, List.length_reverse, MM.Q.dI_len, PySem.sizeLine_eq]; omega)) only [MM.Q.bind_ok, MM.Q.bind_exc, MM.Q.go_ok, MM.Q.go_exc, MM.Q.nox_ok, MM.Q.vr_some, MM.Q.ev_var, MM.Q.ev_c, MM.Q.ev_k, MM.Q.frzO_some, MM.Q.tupO_some, MM.Q.tupO_none, MM.Q.bear_val, MM.Q.bear_frz, MM.Q.bear_ref, MM.Q.bear_own, MM.Q.bear_tup, MM.Q.allD_nil, MM.Q.allD_cons, MM.Q.allD_map, MM.Q.bearO_some, MM.Q.ev_bin, MM.Q.ev_bin1, MM.Q.ev_bin2, MM.Q.add_int, MM.Q.sub_int, MM.Q.mul_int, MM.Q.mod_int, MM.Q.fdiv_int, MM.Q.pow_int, MM.Q.intB_int, MM.Q.datO_f, MM.Q.datO_t, MM.Q.data_d, MM.Q.data_ref, MM.Q.data_own, MM.Q.ev_eq_r, MM.Q.ev_eq_o, MM.Q.ev_eq_l, MM.Q.ev_eq_t, MM.Q.ev_eq_i, MM.Q.ev_eq_b, MM.Q.ev_eq_n, MM.Q.ev_eq_st, MM.Q.ev_eq_sf, MM.Q.eqO_some, MM.Q.eqC_t, MM.Q.eqC_f, MM.Q.eqv_nil, MM.Q.eqv_int, MM.Q.eqv_bool, MM.Q.in_str, MM.Q.notIn_str, MM.Q.is_bool, MM.Q.isnot_bool, MM.Q.tst_bool, MM.Q.ev_tst, MM.Q.ev_truth, MM.Q.ev_tru, MM.Q.truO_some, MM.Q.truth_bool, MM.Q.truth_int, MM.Q.truth_none, MM.Q.truth_list, MM.Q.truth_tup, MM.Q.ev_andB, MM.Q.ev_orB, MM.Q.ev_notB, MM.Q.andB_t, MM.Q.andB_f, MM.Q.orB_t, MM.Q.orB_f, MM.Q.ev_notB1, MM.Q.ev_and, MM.Q.ev_or, MM.Q.and_tB, MM.Q.and_fB, MM.Q.or_tB, MM.Q.or_fB, MM.Q.ev_not, MM.Q.ev_not1, MM.Q.notO_some, MM.Q.ev_ifE, MM.Q.ifE_t, MM.Q.ifE_f, MM.Q.ev_nil, MM.Q.ev_cons, MM.Q.ev_cons1, MM.Q.ev_cons2, MM.Q.ev_disp, MM.Q.disp_lst, MM.Q.disp_tup, MM.Q.frees_nil, MM.Q.frees_cons, MM.Q.free_d, MM.Q.free_ref, MM.Q.free_adr, MM.Q.dI_snoc, MM.Q.dI_len, MM.Q.allD_dI, MM.Q.dI_nil, MM.Q.allD_dIs, MM.Q.frees_map, MM.Q.ev_cb, MM.Q.ev_cb1, MM.Q.ev_call, MM.Q.ev_call1, MM.Q.ev_call0, MM.Q.ev_callK, MM.Q.ev_callK1, MM.Q.ev_callK2, MM.Q.ldd_some, MM.Q.laid_nil, MM.Q.laid_k, MM.Q.laid_p, MM.Q.ixO_some, MM.Q.ev_ix, MM.Q.ev_ix1, MM.Q.ev_ix2, MM.Q.ix_list, MM.Q.ix_tup, MM.Q.refS_lst, MM.Q.refS_tup, MM.Q.seq_ref, MM.Q.seq_own, MM.Q.seq_list, MM.Q.seq_tup, MM.Q.ixK_some, MM.Q.ix_ref, MM.Q.ix_own, MM.Q.listO_f, MM.Q.ev_list, MM.Q.at0, MM.Q.at1, MM.Q.at2, MM.Q.at3, MM.Q.at4, MM.Q.ixN0, MM.Q.ixN1, MM.Q.ixN2, MM.Q.ev_oN, MM.Q.ev_oS, MM.Q.oS_int, MM.Q.ev_sl, MM.Q.ev_sl1, MM.Q.ev_sl2, MM.Q.ev_sl3, MM.Q.ev_rev, MM.Q.rev_list, MM.Q.ev_bm, MM.Q.ev_bm1, MM.Q.cBM_t, MM.Q.ev_bm2, MM.Q.buO_some, MM.Q.ev_bu, MM.Q.ev_bu1, MM.Q.cBU_t, MM.Q.ev_bu2, MM.Q.ty_str, MM.Q.tyO_some, MM.Q.ty_ref, MM.Q.ty_own, MM.Q.ty_list, MM.Q.beq_ll, MM.Q.beq_ss, MM.Q.celO_some, MM.Q.cell_ref, MM.Q.cell_own, MM.Q.ev_append, MM.Q.appO_some, MM.Q.ev_extend, MM.Q.extO_some, MM.Q.ev_pop, MM.Q.popO_snoc, MM.Q.ev_ind, MM.Q.ev_ind1, MM.Q.ev_neg, MM.Q.neg_int, MM.Q.ev_iter, MM.Q.ev_it, MM.Q.itO_some, MM.Q.items_list, MM.Q.items_tup, MM.Q.ev_rg1, MM.Q.rg1_int, MM.Q.ev_lc, MM.Q.ev_lc1, MM.Q.ev_lc2, MM.Q.wipe_nil, MM.Q.wipe_cons, MM.Q.ev_seq, MM.Q.seq_nx, MM.Q.seq_rt, MM.Q.seq_exc, MM.Q.seq_bk, MM.Q.seq_ct, MM.Q.ev_asg, MM.Q.ev_asg1, MM.Q.nxO_some, MM.Q.mg_name, MM.Q.mg_nil, MM.Q.mg_consN, MM.Q.mg_tup, MM.Q.ev_expr, MM.Q.ev_expr1, MM.Q.ev_ret, MM.Q.ev_ret1, MM.Q.ev_retN, MM.Q.ev_skip, MM.Q.ev_brk, MM.Q.ev_cnt, MM.Q.ev_if, MM.Q.if_t, MM.Q.if_f, MM.Q.ev_for, MM.Q.ev_for1, MM.Q.ev_fz, MM.Q.fz_own, MM.Q.fzC_some, MM.Q.fzO_some, MM.Q.fz_d, MM.Q.fz_ref, MM.Q.stO_some, MM.Q.ev_st, MM.Q.ev_st1, MM.Q.ev_st2, MM.Q.ev_st3, MM.Q.ev_setIx, MM.Q.siO_some, MM.Q.ev_par, MM.Q.ev_par1, MM.Q.nones_zero, MM.Q.nones_succ, MM.Q.begin_eq, draw_int, dS_len, dS_app, dS_get, dS_set, sg_app, sg_app2, ag0, ag1, ag2, ag3, as0, as1, as2, as3, al1, al2, al3, dS_trim, dS_trim0, dS_trimc, Int.reduceToNat, Int.toNat_natCast, List.length_map, allD_app, decide_true, decide_false, Bool.not_true, Bool.not_false, Bool.false_and, Bool.and_false, Bool.true_or, Bool.or_true, Bool.or_false, Bool.false_or, ne_eq, not_true_eq_false, not_false_eq_true, beq_self_eq_true,  MM.Q.ev_fn, MM.Q.fin_rt, MM.Q.fin_ref, MM.Q.fin_nx, MM.Q.trim_same, MM.Q.trim_app, MM.Q.ev_len, MM.Q.ev_lst_l, MM.Q.ev_lst_t, MM.Q.ev_lst_r, MM.Q.ev_lst_o, MM.Q.ev_l1, MM.Q.ev_sum, MM.Q.ev_all, MM.Q.ev_any, MM.Q.ev_isi, MM.Q.kind_str, MM.Q.kind_int, MM.Q.kind_bool, MM.Q.kind_none, MM.Q.kind_dict, MM.Q.kind_list, MM.Q.kind_tup, MM.Q.kit_ss, MM.Q.kit_is, MM.Q.kit_bs, MM.Q.kit_ns, MM.Q.kit_ds, MM.Q.kit_ls, MM.Q.kit_ts, MM.Q.ev_repr, MM.Q.ev_join, MM.Q.lenO_some, MM.Q.len_list, MM.Q.len_tup, MM.Q.lnO_some, MM.Q.len_ref, MM.Q.len_own, MM.Q.lisO_some, MM.Q.l1O_some, MM.Q.ints_map, MM.Q.bools_map, MM.Q.strs_map, MM.Q.isiO_some, MM.Q.jnO_some, MM.Q.len_st, MM.Q.add_st, MM.Q.mul_st, MM.Q.ix_st, MM.Q.sl_st, MM.Q.rev_st, MM.Q.eqv_st, MM.Q.st_dec, MM.Q.divmod_int, MM.Q.items_st, MM.Q.allD_mapf, MM.Q.strs_mapf, MM.Q.ints_mapf, MM.Q.bools_mapf, MM.Q.join_ones_some, MM.Q.sl_own, MM.Q.sl_ref, MM.Q.sl_list, MM.Q.slO_some, MM.Q.add_own, MM.Q.add_ref, MM.Q.add_list, MM.Q.catO_some, MM.Q.cutL_map, MM.Q.mg_tupL, MM.Q.ev_ch, MM.Q.ev_ch1, MM.Q.ev_ch2, MM.Q.ch_t, MM.Q.ch_f, MM.Q.ev_ch3, MM.Q.starts_str, MM.Q.ends_str, MM.Q.upper_str, MM.Q.part_str, MM.Q.ev_fmt, MM.Q.ev_fmtR, MM.Q.fmt_st, MM.Q.fmt_int, MM.Q.ev_js_nil, MM.Q.ev_js_cons, MM.Q.ev_js1, MM.Q.ev_js2, MM.Q.jsF_some, MM.Q.js_st, MM.Q.ev_pr_nil, MM.Q.ev_pr_cons, MM.Q.ev_pr1, MM.Q.ev_pr2, MM.Q.ev_pr3, MM.Q.ev_dct, MM.Q.ev_dct1, MM.Q.keys_one, MM.Q.dctF_one, MM.Q.tup_list, MM.Q.tup_tup, MM.Q.tup_st, MM.Q.lst_st, MM.Q.mul_list, MM.Q.mul_tup, MM.Q.ev_popK, MM.Q.in_own, MM.Q.in_ref, MM.Q.in_list, MM.Q.inO_t, MM.Q.inO_f, MM.Q.b2i_t, MM.Q.b2i_f, MM.Q.int_int, MM.Q.int_bool, MM.Q.ev_rg2, MM.Q.rg2_int, MM.Q.ev_en, MM.Q.en_list, MM.Q.en_tup, MM.Q.en_st, MM.Q.ev_sortSc, MM.Q.ev_lenSc, MM.Q.ev_sc1, MM.Q.ev_scL1, MM.Q.ev_sc2, MM.Q.ev_scL2, 
  List.map_cons, List.map_nil, List.length_cons, List.length_nil, List.append_nil, List.nil_append, List.cons_append, List.getElem?_cons_zero, List.getElem?_cons_succ, List.set_cons_zero, List.set_cons_succ, Bool.and_true, Bool.true_and, Option.bind_some, Option.map_some, Nat.reduceAdd, Nat.reduceSub, Nat.add_sub_cancel, Nat.sub_self])
--- imports +b k03at llab gen
theorem all_turn {S : Sg} {l : List Nat} {acc : List (List Nat)} {p : Nat × Nat} {o4 o5 o6 : Option Mv} (hl : l.length ≤ 100000) (hk : ∀ c ∈ l, c < 0x110000) (hp : p ∈ l.zipIdx) (ha : acc.length ≤ 100000) :
    ∃ q4 q5 q6 : Option Mv, b_L_all_within_1 [some (mS l), some (.d (.list (acc.map pS))), some (.d (.int (p.2 : Nat))), some (mS [p.1]), o4, o5, o6] S = .nx [some (mS l), some (.d (.list ((acc ++ (if p.1 == 35 then (nameAt (l.drop p.2)).toList else [])).map pS))), some (.d (.int (p.2 : Nat))), some (mS [p.1]), q4, q5, q6] S := by
  have h16 : sizeLine = 16777216 := PySem.sizeLine_eq
  have so : ∀ c : Nat, c < 0x110000 → SeqAt.shaped (.str (Q.st [c])) = true := fun c hc => Q.ok_st fun d hd => by rw [List.mem_singleton.mp hd]; exact hc
  have k35 := so 35 (by decide)
  have hc : p.1 ∈ l := List.fst_mem_of_mem_zipIdx hp
  have kp := so p.1 (hk _ hc)
  have hlt : p.2 < l.length := List.snd_lt_of_mem_zipIdx hp
  cases e : p.1 == 35 with
  | false =>
    refine ⟨o4, o5, o6, ?_⟩
    unfold b_L_all_within_1
    walk_at "mm"
    rw [show Str.ofString "#" = Q.st [35] by decide +kernel]
    walk_at "mm"
    rw [one_eq, decide_eq_false (by simpa using e)]
    walk_at "mm"
    rw [if_neg (by decide), List.append_nil]
  | true =>
    have hz : rangeL 12 8 = sizes.map fun s => Mv.d (.int (s : Nat)) := rfl
    refine ⟨some (.d (.list (((sizes.filter fun s => decide (s ≤ (l.drop p.2).length)).map fun s => (l.drop p.2).take s).map pS))), o5, o6, ?_⟩
    unfold b_L_all_within_1
    walk_at "mm"
    rw [show Str.ofString "#" = Q.st [35] by decide +kernel]
    walk_at "mm"
    rw [one_eq, decide_eq_true (by simpa using e)]
    walk_at "mm"
    have hd : (l.drop p.2).length = l.length - p.2 := List.length_drop
    rw [show (20 - 12 : Int).toNat = 8 from rfl, hz, @Q.lc_filterF _ S Nat (mgName 5) t_L_all_within_1 e_L_all_within_1 (fun s => .d (.int (s : Nat))) (fun s => mS ((l.drop p.2).take s)) (fun s => decide (s ≤ (l.drop p.2).length)) sizes [] (fun s hs => by
      refine ⟨[some (mS l), some (.d (.list (acc.map pS))), some (.d (.int (p.2 : Nat))), some (mS [p.1]), o4, some (.d (.int (s : Nat))), o6], rfl, ?_, fun _ => ⟨?_, rfl⟩⟩
      · unfold t_L_all_within_1
        walk_at "mm"
        rw [show decide ((p.2 : Int) + (s : Int) ≤ (l.length : Int)) = decide (s ≤ (l.drop p.2).length) from decide_eq_decide.mpr (by omega)]
      · unfold e_L_all_within_1
        walk_at "mm"
        rw [show (p.2 : Int) + (s : Int) = ((p.2 + s : Nat) : Int) by omega, cutL_nat (by omega), show p.2 + s - p.2 = s by omega]) (by rw [h16]; decide)]
    rw [List.nil_append]
    generalize hA : ((sizes.filter fun s => decide (s ≤ (l.drop p.2).length)).map fun s => (l.drop p.2).take s) = A
    have hA2 : (sizes.filter fun s => decide (s ≤ (l.drop p.2).length)).map (fun s => mS ((l.drop p.2).take s)) = A.map mS := by rw [← hA, List.map_map]; rfl
    have lA : A.length ≤ 8 := by rw [← hA, List.length_map]; exact List.length_filter_le _ sizes
    have hAk : ∀ n ∈ A, n.length ≤ 100000 ∧ ∀ c ∈ n, c < 0x110000 := by
      intro n hn
      rw [← hA] at hn
      obtain ⟨s, _, rfl⟩ := List.mem_map.mp hn
      exact ⟨by rw [List.length_take]; omega, fun c hc => hk c (List.mem_of_mem_drop (List.mem_of_mem_take hc))⟩
    rw [hA2]
    walk_at "mm"
    rw [List.map_map, show (Mv.d ∘ fun a => PyData.str (Q.st a)) = mS from rfl, @Q.lc_filterF [some (mS l), some (.d (.list (acc.map pS))), some (.d (.int (p.2 : Nat))), some (mS [p.1]), some (.d (.list (A.map pS))), o5, none] S (List Nat) (mgName 6) t_L_all_within_2 (mVar 6) mS mS calB A [] (fun n hn => by
      obtain ⟨h1, h2⟩ := hAk n hn
      refine ⟨[some (mS l), some (.d (.list (acc.map pS))), some (.d (.int (p.2 : Nat))), some (mS [p.1]), some (.d (.list (A.map pS))), o5, some (mS n)], rfl, ?_, fun _ => ⟨rfl, rfl⟩⟩
      unfold t_L_all_within_2
      walk_at "mm"
      rw [spec_L_is_called (by omega) h2]
      walk_at "mm") (by rw [List.length_nil]; omega)]
    rw [← hA, lawAt, hA]
    have lB : ((nameAt (l.drop p.2)).toList).length ≤ 1 := by cases nameAt (l.drop p.2) <;> simp
    walk_at "mm"
    rw [if_pos trivial, List.map_append]
theorem all_loop {S : Sg} {l : List Nat} (hl : l.length ≤ 4000) (hk : ∀ c ∈ l, c < 0x110000) : ∀ (Z : List (Nat × Nat)) {acc : List (List Nat)} {o2 o3 o4 o5 o6 : Option Mv}, (∀ p ∈ Z, p ∈ l.zipIdx) → acc.length + Z.length ≤ 100000 →
    ∃ q2 q3 q4 q5 q6 : Option Mv, mLoop (mgTup 2 (mgCons (mgName 2) (mgCons (mgName 3) mgNil))) b_L_all_within_1 (Z.map fun p => .d (.tuple [.int (p.2 : Nat), .str (Q.st [p.1])])) [some (mS l), some (.d (.list (acc.map pS))), o2, o3, o4, o5, o6] S
      = .nx [some (mS l), some (.d (.list ((acc ++ (Z.filter fun p => p.1 == 35).filterMap fun p => nameAt (l.drop p.2)).map pS))), q2, q3, q4, q5, q6] S
  | [], acc, o2, o3, o4, o5, o6, _, _ => ⟨o2, o3, o4, o5, o6, by rw [List.filter_nil, List.filterMap_nil, List.append_nil]; rfl⟩
  | p :: Z, acc, o2, o3, o4, o5, o6, hz, ha => by
    rw [List.length_cons] at ha
    obtain ⟨q4, q5, q6, e⟩ := all_turn (S := S) (o4 := o4) (o5 := o5) (o6 := o6) (acc := acc) (by omega) hk (hz p (List.mem_cons_self ..)) (by omega)
    have lB : ((nameAt (l.drop p.2)).toList).length ≤ 1 := by cases nameAt (l.drop p.2) <;> simp
    generalize hB : (if p.1 == 35 then (nameAt (l.drop p.2)).toList else []) = B at e
    have lB2 : B.length ≤ 1 := by rw [← hB]; split <;> simp [lB]
    obtain ⟨r2, r3, r4, r5, r6, e2⟩ := all_loop hl hk Z (acc := acc ++ B) (o2 := some (.d (.int (p.2 : Nat)))) (o3 := some (mS [p.1])) (o4 := q4) (o5 := q5) (o6 := q6) (fun y hy => hz y (List.mem_cons_of_mem _ hy)) (by rw [List.length_append]; omega)
    refine ⟨r2, r3, r4, r5, r6, ?_⟩
    rw [List.map_cons, Q.loop_on (ρ1 := [some (mS l), some (.d (.list (acc.map pS))), some (.d (.int (p.2 : Nat))), some (mS [p.1]), o4, o5, o6]) rfl e, e2]
    congr 6
    rw [List.append_assoc, ← hB]
    congr 1
    rw [List.filter_cons]
    split
    · rw [List.filterMap_cons]
      cases nameAt (l.drop p.2) <;> rfl
    · rfl
theorem spec_all_within {S : Sg} {l : List Nat} (hl : l.length ≤ 4000) (hk : ∀ c ∈ l, c < 0x110000) : f_L_all_within [mS l] S = .ok (.d (.tuple ((Q.sset (namesL l)).map pS))) S := by
  have h16 : sizeLine = 16777216 := PySem.sizeLine_eq
  have hn : (namesL l).length ≤ l.length := by
    have h1 := List.length_filterMap_le (fun p : Nat × Nat => nameAt (l.drop p.2)) (l.zipIdx.filter fun p => p.1 == 35)
    have h2 := List.length_filter_le (fun p : Nat × Nat => p.1 == 35) l.zipIdx
    rw [List.length_zipIdx] at h2
    exact Nat.le_trans h1 h2
  have hs : (Q.sset (namesL l)).length ≤ l.length := Nat.le_trans Q.sset_len hn
  obtain ⟨q2, q3, q4, q5, q6, e⟩ := all_loop (S := S) hl hk l.zipIdx (acc := []) (o2 := none) (o3 := none) (o4 := none) (o5 := none) (o6 := none) (fun _ h => h) (by rw [List.length_zipIdx, List.length_nil]; omega)
  rw [List.map_nil, List.nil_append, show ((l.zipIdx.filter fun p => p.1 == 35).filterMap fun p => nameAt (l.drop p.2)) = namesL l from rfl] at e
  unfold f_L_all_within m_L_all_within
  walk_at "mm"
  rw [e]
  walk_at "mm"
  rw [Q.sortSet_st (by omega) (fun n hn c hc => hk c ((namesL_mem.mp hn).2.subset hc))]
  walk_at "mm"

end Law
end
section
set_option Elab.async false
set_option linter.all false
set_option maxRecDepth 100000
set_option maxHeartbeats 4000000
set_option autoImplicit false
namespace Law
open PySem PySem.Spec PyProof.Rows L2 MM
local macro_rules | `(tactic| walk_at "mm") => `(tactic| simp (disch := first | assumption | omega | exact MM.Q.shaped_int | exact MM.Q.shaped_nil | exact MM.Q.shaped_ints | exact MM.Q.shaped_bool | (refine of_eq_true (eq_true ?_); first | with_unfolding_all rfl | (simp only [MM.Q.free_d, MM.Q.free_ref, MM.Q.free_adr, MM.Q.frees_nil, MM.Q.frees_cons, MM.Q.frees_map, Bool.and_true, Bool.true_and]; done)) | (simp only [List.length_cons, List.length_nil, List.append_nil, List.map_cons, List.map_nil, List.length_append, List.length_map, List.length_reverse, MM.Q.dI_len, PySem.sizeLine_eq]; omega)) only [MM.Q.bind_ok, MM.Q.bind_exc, MM.Q.go_ok, MM.Q.go_exc, MM.Q.nox_ok, MM.Q.vr_some, MM.Q.ev_var, MM.Q.ev_c, MM.Q.ev_k, MM.Q.frzO_some, MM.Q.tupO_some, MM.Q.tupO_none, MM.Q.bear_val, MM.Q.bear_frz, MM.Q.bear_ref, MM.Q.bear_own, MM.Q.bear_tup, MM.Q.allD_nil, MM.Q.allD_cons, MM.Q.allD_map, MM.Q.bearO_some, MM.Q.ev_bin, MM.Q.ev_bin1, MM.Q.ev_bin2, MM.Q.add_int, MM.Q.sub_int, MM.Q.mul_int, MM.Q.mod_int, MM.Q.fdiv_int, MM.Q.pow_int, MM.Q.intB_int, MM.Q.datO_f, MM.Q.datO_t, MM.Q.data_d, MM.Q.data_ref, MM.Q.data_own, MM.Q.ev_eq_r, MM.Q.ev_eq_o, MM.Q.ev_eq_l, MM.Q.ev_eq_t, MM.Q.ev_eq_i, MM.Q.ev_eq_b, MM.Q.ev_eq_n, MM.Q.ev_eq_st, MM.Q.ev_eq_sf, MM.Q.eqO_some, MM.Q.eqC_t, MM.Q.eqC_f, MM.Q.eqv_nil, MM.Q.eqv_int, MM.Q.eqv_bool, MM.Q.in_str, MM.Q.notIn_str, MM.Q.is_bool, MM.Q.isnot_bool, MM.Q.tst_bool, MM.Q.ev_tst, MM.Q.ev_truth, MM.Q.ev_tru, MM.Q.truO_some, MM.Q.truth_bool, MM.Q.truth_int, MM.Q.truth_none, MM.Q.truth_list, MM.Q.truth_tup, MM.Q.ev_andB, MM.Q.ev_orB, MM.Q.ev_notB, MM.Q.andB_t, MM.Q.andB_f, MM.Q.orB_t, MM.Q.orB_f, MM.Q.ev_notB1, MM.Q.ev_and, MM.Q.ev_or, MM.Q.and_tB, MM.Q.and_fB, MM.Q.or_tB, MM.Q.or_fB, MM.Q.ev_not, MM.Q.ev_not1, MM.Q.notO_some, MM.Q.ev_ifE, MM.Q.ifE_t, MM.Q.ifE_f, MM.Q.ev_nil, MM.Q.ev_cons, MM.Q.ev_cons1, MM.Q.ev_cons2, MM.Q.ev_disp, MM.Q.disp_lst, MM.Q.disp_tup, MM.Q.frees_nil, MM.Q.frees_cons, MM.Q.free_d, MM.Q.free_ref, MM.Q.free_adr, MM.Q.dI_snoc, MM.Q.dI_len, MM.Q.allD_dI, MM.Q.dI_nil, MM.Q.allD_dIs, MM.Q.frees_map, MM.Q.ev_cb, MM.Q.ev_cb1, MM.Q.ev_call, MM.Q.ev_call1, MM.Q.ev_call0, MM.Q.ev_callK, MM.Q.ev_callK1, MM.Q.ev_callK2, MM.Q.ldd_some, MM.Q.laid_nil, MM.Q.laid_k, MM.Q.laid_p, MM.Q.ixO_some, MM.Q.ev_ix, MM.Q.ev_ix1, MM.Q.ev_ix2, MM.Q.ix_list, MM.Q.ix_tup, MM.Q.refS_lst, MM.Q.refS_tup, MM.Q.seq_ref, MM.Q.seq_own, MM.Q.seq_list, MM.Q.seq_tup, MM.Q.ixK_some, MM.Q.ix_ref, MM.Q.ix_own, MM.Q.listO_f, MM.Q.ev_list, MM.Q.at0, MM.Q.at1, MM.Q.at2, MM.Q.at3, MM.Q.at4, MM.Q.ixN0, MM.Q.ixN1, MM.Q.ixN2, MM.Q.ev_oN, MM.Q.ev_oS, MM.Q.oS_int, MM.Q.ev_sl, MM.Q.ev_sl1, MM.Q.ev_sl2, MM.Q.ev_sl3, MM.Q.ev_rev, MM.Q.rev_list, MM.Q.ev_bm, MM.Q.ev_bm1, MM.Q.cBM_t, MM.Q.ev_bm2, MM.Q.buO_some, MM.Q.ev_bu, MM.Q.ev_bu1, MM.Q.cBU_t, MM.Q.ev_bu2, MM.Q.ty_str, MM.Q.tyO_some, MM.Q.ty_ref, MM.Q.ty_own, MM.Q.ty_list, MM.Q.beq_ll, MM.Q.beq_ss, MM.Q.celO_some, MM.Q.cell_ref, MM.Q.cell_own, MM.Q.ev_append, MM.Q.appO_some, MM.Q.ev_extend, MM.Q.extO_some, MM.Q.ev_pop, MM.Q.popO_snoc, MM.Q.ev_ind, MM.Q.ev_ind1, MM.Q.ev_neg, MM.Q.neg_int, MM.Q.ev_iter, MM.Q.ev_it, MM.Q.itO_some, MM.Q.items_list, MM.Q.items_tup, MM.Q.ev_rg1, MM.Q.rg1_int, MM.Q.ev_lc, MM.Q.ev_lc1, MM.Q.ev_lc2, MM.Q.wipe_nil, MM.Q.wipe_cons, MM.Q.ev_seq, MM.Q.seq_nx, MM.Q.seq_rt, MM.Q.seq_exc, MM.Q.seq_bk, MM.Q.seq_ct, MM.Q.ev_asg, MM.Q.ev_asg1, MM.Q.nxO_some, MM.Q.mg_name, MM.Q.mg_nil, MM.Q.mg_consN, MM.Q.mg_tup, MM.Q.ev_expr, MM.Q.ev_expr1, MM.Q.ev_ret, MM.Q.ev_ret1, MM.Q.ev_retN, MM.Q.ev_skip, MM.Q.ev_brk, MM.Q.ev_cnt, MM.Q.ev_if, MM.Q.if_t, MM.Q.if_f, MM.Q.ev_for, MM.Q.ev_for1, MM.Q.ev_fz, MM.Q.fz_own, MM.Q.fzC_some, MM.Q.fzO_some, MM.Q.fz_d, MM.Q.fz_ref, MM.Q.stO_some, MM.Q.ev_st, MM.Q.ev_st1, MM.Q.ev_st2, MM.Q.ev_st3, MM.Q.ev_setIx, MM.Q.siO_some, MM.Q.ev_par, MM.Q.ev_par1, MM.Q.nones_zero, MM.Q.nones_succ, MM.Q.begin_eq,  MM.Q.ev_fn, MM.Q.fin_rt, MM.Q.fin_ref, MM.Q.fin_nx, MM.Q.trim_same, MM.Q.trim_app, MM.Q.ev_len, MM.Q.ev_lst_l, MM.Q.ev_lst_t, MM.Q.ev_lst_r, MM.Q.ev_lst_o, MM.Q.ev_l1, MM.Q.ev_sum, MM.Q.ev_all, MM.Q.ev_any, MM.Q.ev_isi, MM.Q.kind_str, MM.Q.kind_int, MM.Q.kind_bool, MM.Q.kind_none, MM.Q.kind_dict, MM.Q.kind_list, MM.Q.kind_tup, MM.Q.kit_ss, MM.Q.kit_is, MM.Q.kit_bs, MM.Q.kit_ns, MM.Q.kit_ds, MM.Q.kit_ls, MM.Q.kit_ts, MM.Q.ev_repr, MM.Q.ev_join, MM.Q.lenO_some, MM.Q.len_list, MM.Q.len_tup, MM.Q.lnO_some, MM.Q.len_ref, MM.Q.len_own, MM.Q.lisO_some, MM.Q.l1O_some, MM.Q.ints_map, MM.Q.bools_map, MM.Q.strs_map, MM.Q.isiO_some, MM.Q.jnO_some, MM.Q.len_st, MM.Q.add_st, MM.Q.mul_st, MM.Q.ix_st, MM.Q.sl_st, MM.Q.rev_st, MM.Q.eqv_st, MM.Q.st_dec, MM.Q.divmod_int, MM.Q.items_st, MM.Q.allD_mapf, MM.Q.strs_mapf, MM.Q.ints_mapf, MM.Q.bools_mapf, MM.Q.join_ones_some, MM.Q.sl_own, MM.Q.sl_ref, MM.Q.sl_list, MM.Q.slO_some, MM.Q.add_own, MM.Q.add_ref, MM.Q.add_list, MM.Q.catO_some, MM.Q.cutL_map, MM.Q.mg_tupL, MM.Q.ev_ch, MM.Q.ev_ch1, MM.Q.ev_ch2, MM.Q.ch_t, MM.Q.ch_f, MM.Q.ev_ch3, MM.Q.starts_str, MM.Q.ends_str, MM.Q.upper_str, MM.Q.part_str, MM.Q.ev_fmt, MM.Q.ev_fmtR, MM.Q.fmt_st, MM.Q.fmt_int, MM.Q.ev_js_nil, MM.Q.ev_js_cons, MM.Q.ev_js1, MM.Q.ev_js2, MM.Q.jsF_some, MM.Q.js_st, MM.Q.ev_pr_nil, MM.Q.ev_pr_cons, MM.Q.ev_pr1, MM.Q.ev_pr2, MM.Q.ev_pr3, MM.Q.ev_dct, MM.Q.ev_dct1, MM.Q.keys_one, MM.Q.dctF_one, MM.Q.tup_list, MM.Q.tup_tup, MM.Q.tup_st, MM.Q.lst_st, MM.Q.mul_list, MM.Q.mul_tup, MM.Q.ev_popK, MM.Q.in_own, MM.Q.in_ref, MM.Q.in_list, MM.Q.inO_t, MM.Q.inO_f, MM.Q.b2i_t, MM.Q.b2i_f, MM.Q.int_int, MM.Q.int_bool, MM.Q.ev_rg2, MM.Q.rg2_int, MM.Q.ev_en, MM.Q.en_list, MM.Q.en_tup, MM.Q.en_st, MM.Q.ev_sortSc, MM.Q.ev_lenSc, MM.Q.ev_sc1, MM.Q.ev_scL1, MM.Q.ev_sc2, MM.Q.ev_scL2, 
  List.map_cons, List.map_nil, List.length_cons, List.length_nil, List.append_nil, List.nil_append, List.cons_append, List.getElem?_cons_zero, List.getElem?_cons_succ, List.set_cons_zero, List.set_cons_succ, Bool.and_true, Bool.true_and, Option.bind_some, Option.map_some, Nat.reduceAdd, Nat.reduceSub, Nat.add_sub_cancel, Nat.sub_self])
--- imports nm
theorem spec_mark_in {S : Sg} {l : List Nat} (h : l.length ≤ 100000) : f_mark_in [mS l] S = .ok (mS (Q.cutL l (some 1) (some 9))) S := by
  have h16 : sizeLine = 16777216 := PySem.sizeLine_eq
  unfold f_mark_in m_mark_in
  walk_at "mm"

end Law
end
section
set_option Elab.async false
set_option linter.all false
set_option maxRecDepth 100000
set_option maxHeartbeats 4000000
set_option autoImplicit false
namespace Law
open PySem PySem.Spec PyProof.Rows L2 MM
local macro_rules | `(tactic| walk_at "mm") => `(tactic| simp (disch := first | assumption | omega | exact MM.Q.shaped_int | exact MM.Q.shaped_nil | exact MM.Q.shaped_ints | exact MM.Q.shaped_bool | (refine of_eq_true (eq_true ?_); first | with_unfolding_all rfl | (simp only [MM.Q.free_d, MM.Q.free_ref, MM.Q.free_adr, MM.Q.frees_nil, MM.Q.frees_cons, MM.Q.frees_map, Bool.and_true, Bool.true_and]; done)) | (simp only [List.length_cons, List.length_nil, List.append_nil, List.map_cons, List.map_nil, List.length_append, List.length_map, List.length_reverse, MM.Q.dI_len, PySem.sizeLine_eq]; omega)) only [MM.Q.bind_ok, MM.Q.bind_exc, MM.Q.go_ok, MM.Q.go_exc, MM.Q.nox_ok, MM.Q.vr_some, MM.Q.ev_var, MM.Q.ev_c, MM.Q.ev_k, MM.Q.frzO_some, MM.Q.tupO_some, MM.Q.tupO_none, MM.Q.bear_val, MM.Q.bear_frz, MM.Q.bear_ref, MM.Q.bear_own, MM.Q.bear_tup, MM.Q.allD_nil, MM.Q.allD_cons, MM.Q.allD_map, MM.Q.bearO_some, MM.Q.ev_bin, MM.Q.ev_bin1, MM.Q.ev_bin2, MM.Q.add_int, MM.Q.sub_int, MM.Q.mul_int, MM.Q.mod_int, MM.Q.fdiv_int, MM.Q.pow_int, MM.Q.intB_int, MM.Q.datO_f, MM.Q.datO_t, MM.Q.data_d, MM.Q.data_ref, MM.Q.data_own, MM.Q.ev_eq_r, MM.Q.ev_eq_o, MM.Q.ev_eq_l, MM.Q.ev_eq_t, MM.Q.ev_eq_i, MM.Q.ev_eq_b, MM.Q.ev_eq_n, MM.Q.ev_eq_st, MM.Q.ev_eq_sf, MM.Q.eqO_some, MM.Q.eqC_t, MM.Q.eqC_f, MM.Q.eqv_nil, MM.Q.eqv_int, MM.Q.eqv_bool, MM.Q.in_str, MM.Q.notIn_str, MM.Q.is_bool, MM.Q.isnot_bool, MM.Q.tst_bool, MM.Q.ev_tst, MM.Q.ev_truth, MM.Q.ev_tru, MM.Q.truO_some, MM.Q.truth_bool, MM.Q.truth_int, MM.Q.truth_none, MM.Q.truth_list, MM.Q.truth_tup, MM.Q.ev_andB, MM.Q.ev_orB, MM.Q.ev_notB, MM.Q.andB_t, MM.Q.andB_f, MM.Q.orB_t, MM.Q.orB_f, MM.Q.ev_notB1, MM.Q.ev_and, MM.Q.ev_or, MM.Q.and_tB, MM.Q.and_fB, MM.Q.or_tB, MM.Q.or_fB, MM.Q.ev_not, MM.Q.ev_not1, MM.Q.notO_some, MM.Q.ev_ifE, MM.Q.ifE_t, MM.Q.ifE_f, MM.Q.ev_nil, MM.Q.ev_cons, MM.Q.ev_cons1, MM.Q.ev_cons2, MM.Q.ev_disp, MM.Q.disp_lst, MM.Q.disp_tup, MM.Q.frees_nil, MM.Q.frees_cons, MM.Q.free_d, MM.Q.free_ref, MM.Q.free_adr, MM.Q.dI_snoc, MM.Q.dI_len, MM.Q.allD_dI, MM.Q.dI_nil, MM.Q.allD_dIs, MM.Q.frees_map, MM.Q.ev_cb, MM.Q.ev_cb1, MM.Q.ev_call, MM.Q.ev_call1, MM.Q.ev_call0, MM.Q.ev_callK, MM.Q.ev_callK1, MM.Q.ev_callK2, MM.Q.ldd_some, MM.Q.laid_nil, MM.Q.laid_k, MM.Q.laid_p, MM.Q.ixO_some, MM.Q.ev_ix, MM.Q.ev_ix1, MM.Q.ev_ix2, MM.Q.ix_list, MM.Q.ix_tup, MM.Q.refS_lst, MM.Q.refS_tup, MM.Q.seq_ref, MM.Q.seq_own, MM.Q.seq_list, MM.Q.seq_tup, MM.Q.ixK_some, MM.Q.ix_ref, MM.Q.ix_own, MM.Q.listO_f, MM.Q.ev_list, MM.Q.at0, MM.Q.at1, MM.Q.at2, MM.Q.at3, MM.Q.at4, MM.Q.ixN0, MM.Q.ixN1, MM.Q.ixN2, MM.Q.ev_oN, MM.Q.ev_oS, MM.Q.oS_int, MM.Q.ev_sl, MM.Q.ev_sl1, MM.Q.ev_sl2, MM.Q.ev_sl3, MM.Q.ev_rev, MM.Q.rev_list, MM.Q.ev_bm, MM.Q.ev_bm1, MM.Q.cBM_t, MM.Q.ev_bm2, MM.Q.buO_some, MM.Q.ev_bu, MM.Q.ev_bu1, MM.Q.cBU_t, MM.Q.ev_bu2, MM.Q.ty_str, MM.Q.tyO_some, MM.Q.ty_ref, MM.Q.ty_own, MM.Q.ty_list, MM.Q.beq_ll, MM.Q.beq_ss, MM.Q.celO_some, MM.Q.cell_ref, MM.Q.cell_own, MM.Q.ev_append, MM.Q.appO_some, MM.Q.ev_extend, MM.Q.extO_some, MM.Q.ev_pop, MM.Q.popO_snoc, MM.Q.ev_ind, MM.Q.ev_ind1, MM.Q.ev_neg, MM.Q.neg_int, MM.Q.ev_iter, MM.Q.ev_it, MM.Q.itO_some, MM.Q.items_list, MM.Q.items_tup, MM.Q.ev_rg1, MM.Q.rg1_int, MM.Q.ev_lc, MM.Q.ev_lc1, MM.Q.ev_lc2, MM.Q.wipe_nil, MM.Q.wipe_cons, MM.Q.ev_seq, MM.Q.seq_nx, MM.Q.seq_rt, MM.Q.seq_exc, MM.Q.seq_bk, MM.Q.seq_ct, MM.Q.ev_asg, MM.Q.ev_asg1, MM.Q.nxO_some, MM.Q.mg_name, MM.Q.mg_nil, MM.Q.mg_consN, MM.Q.mg_tup, MM.Q.ev_expr, MM.Q.ev_expr1, MM.Q.ev_ret, MM.Q.ev_ret1, MM.Q.ev_retN, MM.Q.ev_skip, MM.Q.ev_brk, MM.Q.ev_cnt, MM.Q.ev_if, MM.Q.if_t, MM.Q.if_f, MM.Q.ev_for, MM.Q.ev_for1, MM.Q.ev_fz, MM.Q.fz_own, MM.Q.fzC_some, MM.Q.fzO_some, MM.Q.fz_d, MM.Q.fz_ref, MM.Q.stO_some, MM.Q.ev_st, MM.Q.ev_st1, MM.Q.ev_st2, MM.Q.ev_st3, MM.Q.ev_setIx, MM.Q.siO_some, MM.Q.ev_par, MM.Q.ev_par1, MM.Q.nones_zero, MM.Q.nones_succ, MM.Q.begin_eq,  MM.Q.ev_fn, MM.Q.fin_rt, MM.Q.fin_ref, MM.Q.fin_nx, MM.Q.trim_same, MM.Q.trim_app, MM.Q.ev_len, MM.Q.ev_lst_l, MM.Q.ev_lst_t, MM.Q.ev_lst_r, MM.Q.ev_lst_o, MM.Q.ev_l1, MM.Q.ev_sum, MM.Q.ev_all, MM.Q.ev_any, MM.Q.ev_isi, MM.Q.kind_str, MM.Q.kind_int, MM.Q.kind_bool, MM.Q.kind_none, MM.Q.kind_dict, MM.Q.kind_list, MM.Q.kind_tup, MM.Q.kit_ss, MM.Q.kit_is, MM.Q.kit_bs, MM.Q.kit_ns, MM.Q.kit_ds, MM.Q.kit_ls, MM.Q.kit_ts, MM.Q.ev_repr, MM.Q.ev_join, MM.Q.lenO_some, MM.Q.len_list, MM.Q.len_tup, MM.Q.lnO_some, MM.Q.len_ref, MM.Q.len_own, MM.Q.lisO_some, MM.Q.l1O_some, MM.Q.ints_map, MM.Q.bools_map, MM.Q.strs_map, MM.Q.isiO_some, MM.Q.jnO_some, MM.Q.len_st, MM.Q.add_st, MM.Q.mul_st, MM.Q.ix_st, MM.Q.sl_st, MM.Q.rev_st, MM.Q.eqv_st, MM.Q.st_dec, MM.Q.divmod_int, MM.Q.items_st, MM.Q.allD_mapf, MM.Q.strs_mapf, MM.Q.ints_mapf, MM.Q.bools_mapf, MM.Q.join_ones_some, MM.Q.sl_own, MM.Q.sl_ref, MM.Q.sl_list, MM.Q.slO_some, MM.Q.add_own, MM.Q.add_ref, MM.Q.add_list, MM.Q.catO_some, MM.Q.cutL_map, MM.Q.mg_tupL, MM.Q.ev_ch, MM.Q.ev_ch1, MM.Q.ev_ch2, MM.Q.ch_t, MM.Q.ch_f, MM.Q.ev_ch3, MM.Q.starts_str, MM.Q.ends_str, MM.Q.upper_str, MM.Q.part_str, MM.Q.ev_fmt, MM.Q.ev_fmtR, MM.Q.fmt_st, MM.Q.fmt_int, MM.Q.ev_js_nil, MM.Q.ev_js_cons, MM.Q.ev_js1, MM.Q.ev_js2, MM.Q.jsF_some, MM.Q.js_st, MM.Q.ev_pr_nil, MM.Q.ev_pr_cons, MM.Q.ev_pr1, MM.Q.ev_pr2, MM.Q.ev_pr3, MM.Q.ev_dct, MM.Q.ev_dct1, MM.Q.keys_one, MM.Q.dctF_one, MM.Q.tup_list, MM.Q.tup_tup, MM.Q.tup_st, MM.Q.lst_st, MM.Q.mul_list, MM.Q.mul_tup, MM.Q.ev_popK, MM.Q.in_own, MM.Q.in_ref, MM.Q.in_list, MM.Q.inO_t, MM.Q.inO_f, MM.Q.b2i_t, MM.Q.b2i_f, MM.Q.int_int, MM.Q.int_bool, MM.Q.ev_rg2, MM.Q.rg2_int, MM.Q.ev_en, MM.Q.en_list, MM.Q.en_tup, MM.Q.en_st, MM.Q.ev_sortSc, MM.Q.ev_lenSc, MM.Q.ev_sc1, MM.Q.ev_scL1, MM.Q.ev_sc2, MM.Q.ev_scL2, 
  List.map_cons, List.map_nil, List.length_cons, List.length_nil, List.append_nil, List.nil_append, List.cons_append, List.getElem?_cons_zero, List.getElem?_cons_succ, List.set_cons_zero, List.set_cons_succ, Bool.and_true, Bool.true_and, Option.bind_some, Option.map_some, Nat.reduceAdd, Nat.reduceSub, Nat.add_sub_cancel, Nat.sub_self])
--- imports nm
theorem spec_label_in {S : Sg} {l : List Nat} (h : l.length ≤ 100000) : f_label_in [mS l] S = .ok (mS (Q.cutL l (some 10) (some (-1)))) S := by
  have h16 : sizeLine = 16777216 := PySem.sizeLine_eq
  unfold f_label_in m_label_in
  walk_at "mm"
  rfl

end Law
end
section
set_option Elab.async false
set_option linter.all false
set_option maxRecDepth 100000
set_option maxHeartbeats 4000000
set_option autoImplicit false
namespace Law
open PySem PySem.Spec PyProof.Rows L2 MM
local macro_rules | `(tactic| walk_at "mm") => `(tactic| simp (disch := first | assumption | omega | exact MM.Q.shaped_int | exact MM.Q.shaped_nil | exact MM.Q.shaped_ints | exact MM.Q.shaped_bool | (refine of_eq_true (eq_true ?_); first | with_unfolding_all rfl | (simp only [MM.Q.free_d, MM.Q.free_ref, MM.Q.free_adr, MM.Q.frees_nil, MM.Q.frees_cons, MM.Q.frees_map, Bool.and_true, Bool.true_and]; done)) | (simp only [List.length_cons, List.length_nil, List.append_nil, List.map_cons, List.map_nil, List.length_append, List.length_map, List.length_reverse, MM.Q.dI_len, PySem.sizeLine_eq]; omega)) only [MM.Q.bind_ok, MM.Q.bind_exc, MM.Q.go_ok, MM.Q.go_exc, MM.Q.nox_ok, MM.Q.vr_some, MM.Q.ev_var, MM.Q.ev_c, MM.Q.ev_k, MM.Q.frzO_some, MM.Q.tupO_some, MM.Q.tupO_none, MM.Q.bear_val, MM.Q.bear_frz, MM.Q.bear_ref, MM.Q.bear_own, MM.Q.bear_tup, MM.Q.allD_nil, MM.Q.allD_cons, MM.Q.allD_map, MM.Q.bearO_some, MM.Q.ev_bin, MM.Q.ev_bin1, MM.Q.ev_bin2, MM.Q.add_int, MM.Q.sub_int, MM.Q.mul_int, MM.Q.mod_int, MM.Q.fdiv_int, MM.Q.pow_int, MM.Q.intB_int, MM.Q.datO_f, MM.Q.datO_t, MM.Q.data_d, MM.Q.data_ref, MM.Q.data_own, MM.Q.ev_eq_r, MM.Q.ev_eq_o, MM.Q.ev_eq_l, MM.Q.ev_eq_t, MM.Q.ev_eq_i, MM.Q.ev_eq_b, MM.Q.ev_eq_n, MM.Q.ev_eq_st, MM.Q.ev_eq_sf, MM.Q.eqO_some, MM.Q.eqC_t, MM.Q.eqC_f, MM.Q.eqv_nil, MM.Q.eqv_int, MM.Q.eqv_bool, MM.Q.in_str, MM.Q.notIn_str, MM.Q.is_bool, MM.Q.isnot_bool, MM.Q.tst_bool, MM.Q.ev_tst, MM.Q.ev_truth, MM.Q.ev_tru, MM.Q.truO_some, MM.Q.truth_bool, MM.Q.truth_int, MM.Q.truth_none, MM.Q.truth_list, MM.Q.truth_tup, MM.Q.ev_andB, MM.Q.ev_orB, MM.Q.ev_notB, MM.Q.andB_t, MM.Q.andB_f, MM.Q.orB_t, MM.Q.orB_f, MM.Q.ev_notB1, MM.Q.ev_and, MM.Q.ev_or, MM.Q.and_tB, MM.Q.and_fB, MM.Q.or_tB, MM.Q.or_fB, MM.Q.ev_not, MM.Q.ev_not1, MM.Q.notO_some, MM.Q.ev_ifE, MM.Q.ifE_t, MM.Q.ifE_f, MM.Q.ev_nil, MM.Q.ev_cons, MM.Q.ev_cons1, MM.Q.ev_cons2, MM.Q.ev_disp, MM.Q.disp_lst, MM.Q.disp_tup, MM.Q.frees_nil, MM.Q.frees_cons, MM.Q.free_d, MM.Q.free_ref, MM.Q.free_adr, MM.Q.dI_snoc, MM.Q.dI_len, MM.Q.allD_dI, MM.Q.dI_nil, MM.Q.allD_dIs, MM.Q.frees_map, MM.Q.ev_cb, MM.Q.ev_cb1, MM.Q.ev_call, MM.Q.ev_call1, MM.Q.ev_call0, MM.Q.ev_callK, MM.Q.ev_callK1, MM.Q.ev_callK2, MM.Q.ldd_some, MM.Q.laid_nil, MM.Q.laid_k, MM.Q.laid_p, MM.Q.ixO_some, MM.Q.ev_ix, MM.Q.ev_ix1, MM.Q.ev_ix2, MM.Q.ix_list, MM.Q.ix_tup, MM.Q.refS_lst, MM.Q.refS_tup, MM.Q.seq_ref, MM.Q.seq_own, MM.Q.seq_list, MM.Q.seq_tup, MM.Q.ixK_some, MM.Q.ix_ref, MM.Q.ix_own, MM.Q.listO_f, MM.Q.ev_list, MM.Q.at0, MM.Q.at1, MM.Q.at2, MM.Q.at3, MM.Q.at4, MM.Q.ixN0, MM.Q.ixN1, MM.Q.ixN2, MM.Q.ev_oN, MM.Q.ev_oS, MM.Q.oS_int, MM.Q.ev_sl, MM.Q.ev_sl1, MM.Q.ev_sl2, MM.Q.ev_sl3, MM.Q.ev_rev, MM.Q.rev_list, MM.Q.ev_bm, MM.Q.ev_bm1, MM.Q.cBM_t, MM.Q.ev_bm2, MM.Q.buO_some, MM.Q.ev_bu, MM.Q.ev_bu1, MM.Q.cBU_t, MM.Q.ev_bu2, MM.Q.ty_str, MM.Q.tyO_some, MM.Q.ty_ref, MM.Q.ty_own, MM.Q.ty_list, MM.Q.beq_ll, MM.Q.beq_ss, MM.Q.celO_some, MM.Q.cell_ref, MM.Q.cell_own, MM.Q.ev_append, MM.Q.appO_some, MM.Q.ev_extend, MM.Q.extO_some, MM.Q.ev_pop, MM.Q.popO_snoc, MM.Q.ev_ind, MM.Q.ev_ind1, MM.Q.ev_neg, MM.Q.neg_int, MM.Q.ev_iter, MM.Q.ev_it, MM.Q.itO_some, MM.Q.items_list, MM.Q.items_tup, MM.Q.ev_rg1, MM.Q.rg1_int, MM.Q.ev_lc, MM.Q.ev_lc1, MM.Q.ev_lc2, MM.Q.wipe_nil, MM.Q.wipe_cons, MM.Q.ev_seq, MM.Q.seq_nx, MM.Q.seq_rt, MM.Q.seq_exc, MM.Q.seq_bk, MM.Q.seq_ct, MM.Q.ev_asg, MM.Q.ev_asg1, MM.Q.nxO_some, MM.Q.mg_name, MM.Q.mg_nil, MM.Q.mg_consN, MM.Q.mg_tup, MM.Q.ev_expr, MM.Q.ev_expr1, MM.Q.ev_ret, MM.Q.ev_ret1, MM.Q.ev_retN, MM.Q.ev_skip, MM.Q.ev_brk, MM.Q.ev_cnt, MM.Q.ev_if, MM.Q.if_t, MM.Q.if_f, MM.Q.ev_for, MM.Q.ev_for1, MM.Q.ev_fz, MM.Q.fz_own, MM.Q.fzC_some, MM.Q.fzO_some, MM.Q.fz_d, MM.Q.fz_ref, MM.Q.stO_some, MM.Q.ev_st, MM.Q.ev_st1, MM.Q.ev_st2, MM.Q.ev_st3, MM.Q.ev_setIx, MM.Q.siO_some, MM.Q.ev_par, MM.Q.ev_par1, MM.Q.nones_zero, MM.Q.nones_succ, MM.Q.begin_eq,  MM.Q.ev_fn, MM.Q.fin_rt, MM.Q.fin_ref, MM.Q.fin_nx, MM.Q.trim_same, MM.Q.trim_app, MM.Q.ev_len, MM.Q.ev_lst_l, MM.Q.ev_lst_t, MM.Q.ev_lst_r, MM.Q.ev_lst_o, MM.Q.ev_l1, MM.Q.ev_sum, MM.Q.ev_all, MM.Q.ev_any, MM.Q.ev_isi, MM.Q.kind_str, MM.Q.kind_int, MM.Q.kind_bool, MM.Q.kind_none, MM.Q.kind_dict, MM.Q.kind_list, MM.Q.kind_tup, MM.Q.kit_ss, MM.Q.kit_is, MM.Q.kit_bs, MM.Q.kit_ns, MM.Q.kit_ds, MM.Q.kit_ls, MM.Q.kit_ts, MM.Q.ev_repr, MM.Q.ev_join, MM.Q.lenO_some, MM.Q.len_list, MM.Q.len_tup, MM.Q.lnO_some, MM.Q.len_ref, MM.Q.len_own, MM.Q.lisO_some, MM.Q.l1O_some, MM.Q.ints_map, MM.Q.bools_map, MM.Q.strs_map, MM.Q.isiO_some, MM.Q.jnO_some, MM.Q.len_st, MM.Q.add_st, MM.Q.mul_st, MM.Q.ix_st, MM.Q.sl_st, MM.Q.rev_st, MM.Q.eqv_st, MM.Q.st_dec, MM.Q.divmod_int, MM.Q.items_st, MM.Q.allD_mapf, MM.Q.strs_mapf, MM.Q.ints_mapf, MM.Q.bools_mapf, MM.Q.join_ones_some, MM.Q.sl_own, MM.Q.sl_ref, MM.Q.sl_list, MM.Q.slO_some, MM.Q.add_own, MM.Q.add_ref, MM.Q.add_list, MM.Q.catO_some, MM.Q.cutL_map, MM.Q.mg_tupL, MM.Q.ev_ch, MM.Q.ev_ch1, MM.Q.ev_ch2, MM.Q.ch_t, MM.Q.ch_f, MM.Q.ev_ch3, MM.Q.starts_str, MM.Q.ends_str, MM.Q.upper_str, MM.Q.part_str, MM.Q.ev_fmt, MM.Q.ev_fmtR, MM.Q.fmt_st, MM.Q.fmt_int, MM.Q.ev_js_nil, MM.Q.ev_js_cons, MM.Q.ev_js1, MM.Q.ev_js2, MM.Q.jsF_some, MM.Q.js_st, MM.Q.ev_pr_nil, MM.Q.ev_pr_cons, MM.Q.ev_pr1, MM.Q.ev_pr2, MM.Q.ev_pr3, MM.Q.ev_dct, MM.Q.ev_dct1, MM.Q.keys_one, MM.Q.dctF_one, MM.Q.tup_list, MM.Q.tup_tup, MM.Q.tup_st, MM.Q.lst_st, MM.Q.mul_list, MM.Q.mul_tup, MM.Q.ev_popK, MM.Q.in_own, MM.Q.in_ref, MM.Q.in_list, MM.Q.inO_t, MM.Q.inO_f, MM.Q.b2i_t, MM.Q.b2i_f, MM.Q.int_int, MM.Q.int_bool, MM.Q.ev_rg2, MM.Q.rg2_int, MM.Q.ev_en, MM.Q.en_list, MM.Q.en_tup, MM.Q.en_st, MM.Q.ev_sortSc, MM.Q.ev_lenSc, MM.Q.ev_sc1, MM.Q.ev_scL1, MM.Q.ev_sc2, MM.Q.ev_scL2, 
  List.map_cons, List.map_nil, List.length_cons, List.length_nil, List.append_nil, List.nil_append, List.cons_append, List.getElem?_cons_zero, List.getElem?_cons_succ, List.set_cons_zero, List.set_cons_succ, Bool.and_true, Bool.true_and, Option.bind_some, Option.map_some, Nat.reduceAdd, Nat.reduceSub, Nat.add_sub_cancel, Nat.sub_self])
--- imports sig good
/-! what can be shown -/
mutual
def rp : PyData → Bool
  | .none | .bool _ => true
  | .int i => decide (i.natAbs < 10 ^ 45)
  | .str x => x.cps.toList.all fun c => decide (c < 0x110000)
  | .list xs | .tuple xs => rps xs
  | .dict _ => false
def rps : List PyData → Bool
  | [] => true
  | x :: xs => rp x && rps xs
end
theorem rp_none : rp .none = true := rfl
theorem rp_bool {b : Bool} : rp (.bool b) = true := rfl
theorem rp_int {i : Int} (h : i.natAbs < 10 ^ 45) : rp (.int i) = true := decide_eq_true h
theorem rp_st {n : Nat} {l : List Nat} (h : Gd n l) : rp (.str (Q.st l)) = true := by
  show (Q.cs (Q.st l)).all _ = true
  rw [Q.cs_st]
  exact List.all_eq_true.mpr fun c hc => decide_eq_true (h.ok c hc)
theorem rp_list {xs : List PyData} : rp (.list xs) = rps xs := by simp only [rp]
theorem rp_tup {xs : List PyData} : rp (.tuple xs) = rps xs := by simp only [rp]
theorem rps_nil : rps [] = true := by simp only [rps]
theorem rps_cons {x : PyData} {xs : List PyData} : rps (x :: xs) = (rp x && rps xs) := by simp only [rps]
theorem int_short {i : Int} (h : i.natAbs < 10 ^ 45) : (PyData.shown (.int i)).length ≤ 46 := by
  have e := PySem.int_text_length_le10 (k := 45) (by decide) h
  show (Str.ofString (toString i)).length ≤ 46
  rw [PyProof.Rows.ofString_len]; exact e
mutual
theorem rp_lay : ∀ {d : PyData}, rp d = true → d.canLay0 = true ∧ d.showable = true ∧ d.leavesShort 60 = true
  | .none, _ => ⟨rfl, rfl, rfl⟩
  | .bool _, _ => ⟨rfl, rfl, rfl⟩
  | .int i, h => by
    have h' : i.natAbs < 10 ^ 45 := of_decide_eq_true h
    refine ⟨rfl, decide_eq_true ?_, decide_eq_true (Nat.le_trans (int_short h') (by decide))⟩
    have : i.natAbs < 2 ^ 1920 := Nat.lt_trans h' (by decide +kernel)
    by_cases e : i.natAbs = 0
    · rw [e]; decide
    · exact (Nat.log2_lt e).mpr this
  | .str x, h => by
    have h' : ∀ c ∈ x.cps.toList, c < 0x110000 := fun c hc => of_decide_eq_true (List.all_eq_true.mp h c hc)
    refine ⟨by simp only [PyData.canLay0]; exact Q.strOk_of h', rfl, ?_⟩
    simp only [PyData.leavesShort]
    exact List.all_eq_true.mpr fun c hc => decide_eq_true (by have := h' c hc; omega)
  | .list xs, h => by
    rw [rp_list] at h
    have := rps_lay h
    simp only [PyData.canLay0, PyData.showable, PyData.leavesShort]
    exact this
  | .tuple xs, h => by
    rw [rp_tup] at h
    have := rps_lay h
    simp only [PyData.canLay0, PyData.showable, PyData.leavesShort]
    exact this
  | .dict _, h => by simp [rp] at h
theorem rps_lay : ∀ {ds : List PyData}, rps ds = true → PyData.canLayAll0 ds = true ∧ PyData.showableAll ds = true ∧ PyData.leavesShortAll 60 ds = true
  | [], _ => ⟨rfl, rfl, rfl⟩
  | x :: xs, h => by
    rw [rps_cons, Bool.and_eq_true] at h
    have h1 := rp_lay h.1
    have h2 := rps_lay h.2
    simp only [PyData.canLayAll0, PyData.showableAll, PyData.leavesShortAll, h1, h2, Bool.and_self, and_self]
end
theorem rp_shaped {d : PyData} (h : rp d = true) (h2 : d.depth ≤ 64) : SeqAt.shaped d = true := by
  unfold SeqAt.shaped
  rw [(rp_lay h).1, decide_eq_true h2]; rfl
theorem rp_fits {d : PyData} (h : rp d = true) (h3 : d.bulk ≤ 200000) : d.shown.length ≤ sizeLine := by
  have h1 := PyData.shown_le_bulk 60 (by decide) d (rp_lay h).2.2
  rw [PySem.sizeLine_eq]
  have : (60 + 2) * d.bulk ≤ 62 * 200000 := Nat.mul_le_mul_left _ h3
  omega
theorem rp_shows {d : PyData} (h : rp d = true) (h2 : d.depth ≤ 64) : shows d = true := by
  cases d with
  | dict _ => simp [rp] at h
  | _ => exact rp_shaped h h2
/-- the text of what can be shown -/
theorem rp_rep {d : PyData} (h : rp d = true) (h2 : d.depth ≤ 64) (h3 : d.bulk ≤ 200000) : Q.repO (some d) = some (.val (.d (.str d.shown))) := Q.repO_some (rp_shows h h2) (rp_lay h).2.1 (rp_fits h h3)
theorem bulk_st {l : List Nat} : (PyData.str (Q.st l)).bulk = l.length := by simp [PyData.bulk, Q.st]
theorem bulk_list {xs : List PyData} : (PyData.list xs).bulk = PyData.bulkAll xs := by simp only [PyData.bulk]
theorem bulk_tup {xs : List PyData} : (PyData.tuple xs).bulk = PyData.bulkAll xs := by simp only [PyData.bulk]
theorem bulk_int {i : Int} : (PyData.int i).bulk = 0 := by simp only [PyData.bulk]
theorem bulk_bool {i : Bool} : (PyData.bool i).bulk = 0 := by simp only [PyData.bulk]
theorem bulk_none : (PyData.none).bulk = 0 := by simp only [PyData.bulk]
theorem bulk_nil : PyData.bulkAll [] = 0 := by simp only [PyData.bulkAll]
theorem bulk_cons {x : PyData} {xs : List PyData} : PyData.bulkAll (x :: xs) = x.bulk + 1 + PyData.bulkAll xs := by simp only [PyData.bulkAll]
theorem depth_st {l : Str} : (PyData.str l).depth = 0 := by simp only [PyData.depth]
theorem depth_int {l : Int} : (PyData.int l).depth = 0 := by simp only [PyData.depth]
theorem depth_bool {l : Bool} : (PyData.bool l).depth = 0 := by simp only [PyData.depth]
theorem depth_none : (PyData.none).depth = 0 := by simp only [PyData.depth]
theorem depth_list {xs : List PyData} : (PyData.list xs).depth = PyData.depthAll xs + 1 := by simp only [PyData.depth]
theorem depth_tup {xs : List PyData} : (PyData.tuple xs).depth = PyData.depthAll xs + 1 := by simp only [PyData.depth]
theorem depth_nil : PyData.depthAll [] = 0 := by simp only [PyData.depthAll]
theorem depth_cons {x : PyData} {xs : List PyData} : PyData.depthAll (x :: xs) = max x.depth (PyData.depthAll xs) := by simp only [PyData.depthAll]
theorem rps_ones {l : List Nat} (h : ∀ c ∈ l, isG c = true) : rps (l.map fun c => PyData.str (Q.st [c])) = true := by
  induction l with
  | nil => exact rps_nil
  | cons a r ih =>
    rw [List.map_cons, rps_cons, rp_st (Gd.one (h a (List.mem_cons_self ..))), ih fun c hc => h c (List.mem_cons_of_mem _ hc)]; rfl
theorem bulk_ones {l : List Nat} : PyData.bulkAll (l.map fun c => PyData.str (Q.st [c])) = 2 * l.length := by
  induction l with
  | nil => exact bulk_nil
  | cons a r ih => rw [List.map_cons, bulk_cons, ih, bulk_st]; simp only [List.length_cons, List.length_nil]; omega
theorem depth_ones {l : List Nat} : PyData.depthAll (l.map fun c => PyData.str (Q.st [c])) = 0 := by
  induction l with
  | nil => exact depth_nil
  | cons a r ih => rw [List.map_cons, depth_cons, ih, depth_st]; rfl

end Law
end
section
set_option Elab.async false
set_option linter.all false
set_option maxRecDepth 100000
set_option maxHeartbeats 4000000
set_option autoImplicit false
namespace Law
open PySem PySem.Spec PyProof.Rows L2 MM
local macro_rules | `(tactic| walk_at "mm") => `(tactic| simp (disch := first | assumption | omega | exact MM.Q.shaped_int | exact MM.Q.shaped_nil | exact MM.Q.shaped_ints | exact MM.Q.shaped_bool | (refine of_eq_true (eq_true ?_); first | with_unfolding_all rfl | (simp only [MM.Q.free_d, MM.Q.free_ref, MM.Q.free_adr, MM.Q.frees_nil, MM.Q.frees_cons, MM.Q.frees_map, Bool.and_true, Bool.true_and]; done)) | (simp only [List.length_cons, List.length_nil, List.append_nil, List.map_cons, List.map_nil, List.length_append, List.length_map, List.length_reverse, MM.Q.dI_len, PySem.sizeLine_eq]; omega)) only [MM.Q.bind_ok, MM.Q.bind_exc, MM.Q.go_ok, MM.Q.go_exc, MM.Q.nox_ok, MM.Q.vr_some, MM.Q.ev_var, MM.Q.ev_c, MM.Q.ev_k, MM.Q.frzO_some, MM.Q.tupO_some, MM.Q.tupO_none, MM.Q.bear_val, MM.Q.bear_frz, MM.Q.bear_ref, MM.Q.bear_own, MM.Q.bear_tup, MM.Q.allD_nil, MM.Q.allD_cons, MM.Q.allD_map, MM.Q.bearO_some, MM.Q.ev_bin, MM.Q.ev_bin1, MM.Q.ev_bin2, MM.Q.add_int, MM.Q.sub_int, MM.Q.mul_int, MM.Q.mod_int, MM.Q.fdiv_int, MM.Q.pow_int, MM.Q.intB_int, MM.Q.datO_f, MM.Q.datO_t, MM.Q.data_d, MM.Q.data_ref, MM.Q.data_own, MM.Q.ev_eq_r, MM.Q.ev_eq_o, MM.Q.ev_eq_l, MM.Q.ev_eq_t, MM.Q.ev_eq_i, MM.Q.ev_eq_b, MM.Q.ev_eq_n, MM.Q.ev_eq_st, MM.Q.ev_eq_sf, MM.Q.eqO_some, MM.Q.eqC_t, MM.Q.eqC_f, MM.Q.eqv_nil, MM.Q.eqv_int, MM.Q.eqv_bool, MM.Q.in_str, MM.Q.notIn_str, MM.Q.is_bool, MM.Q.isnot_bool, MM.Q.tst_bool, MM.Q.ev_tst, MM.Q.ev_truth, MM.Q.ev_tru, MM.Q.truO_some, MM.Q.truth_bool, MM.Q.truth_int, MM.Q.truth_none, MM.Q.truth_list, MM.Q.truth_tup, MM.Q.ev_andB, MM.Q.ev_orB, MM.Q.ev_notB, MM.Q.andB_t, MM.Q.andB_f, MM.Q.orB_t, MM.Q.orB_f, MM.Q.ev_notB1, MM.Q.ev_and, MM.Q.ev_or, MM.Q.and_tB, MM.Q.and_fB, MM.Q.or_tB, MM.Q.or_fB, MM.Q.ev_not, MM.Q.ev_not1, MM.Q.notO_some, MM.Q.ev_ifE, MM.Q.ifE_t, MM.Q.ifE_f, MM.Q.ev_nil, MM.Q.ev_cons, MM.Q.ev_cons1, MM.Q.ev_cons2, MM.Q.ev_disp, MM.Q.disp_lst, MM.Q.disp_tup, MM.Q.frees_nil, MM.Q.frees_cons, MM.Q.free_d, MM.Q.free_ref, MM.Q.free_adr, MM.Q.dI_snoc, MM.Q.dI_len, MM.Q.allD_dI, MM.Q.dI_nil, MM.Q.allD_dIs, MM.Q.frees_map, MM.Q.ev_cb, MM.Q.ev_cb1, MM.Q.ev_call, MM.Q.ev_call1, MM.Q.ev_call0, MM.Q.ev_callK, MM.Q.ev_callK1, MM.Q.ev_callK2, MM.Q.ldd_some, MM.Q.laid_nil, MM.Q.laid_k, MM.Q.laid_p, MM.Q.ixO_some, MM.Q.ev_ix, MM.Q.ev_ix1, MM.Q.ev_ix2, MM.Q.ix_list, MM.Q.ix_tup, MM.Q.refS_lst, MM.Q.refS_tup, MM.Q.seq_ref, MM.Q.seq_own, MM.Q.seq_list, MM.Q.seq_tup, MM.Q.ixK_some, MM.Q.ix_ref, MM.Q.ix_own, MM.Q.listO_f, MM.Q.ev_list, MM.Q.at0, MM.Q.at1, MM.Q.at2, MM.Q.at3, MM.Q.at4, MM.Q.ixN0, MM.Q.ixN1, MM.Q.ixN2, MM.Q.ev_oN, MM.Q.ev_oS, MM.Q.oS_int, MM.Q.ev_sl, MM.Q.ev_sl1, MM.Q.ev_sl2, MM.Q.ev_sl3, MM.Q.ev_rev, MM.Q.rev_list, MM.Q.ev_bm, MM.Q.ev_bm1, MM.Q.cBM_t, MM.Q.ev_bm2, MM.Q.buO_some, MM.Q.ev_bu, MM.Q.ev_bu1, MM.Q.cBU_t, MM.Q.ev_bu2, MM.Q.ty_str, MM.Q.tyO_some, MM.Q.ty_ref, MM.Q.ty_own, MM.Q.ty_list, MM.Q.beq_ll, MM.Q.beq_ss, MM.Q.celO_some, MM.Q.cell_ref, MM.Q.cell_own, MM.Q.ev_append, MM.Q.appO_some, MM.Q.ev_extend, MM.Q.extO_some, MM.Q.ev_pop, MM.Q.popO_snoc, MM.Q.ev_ind, MM.Q.ev_ind1, MM.Q.ev_neg, MM.Q.neg_int, MM.Q.ev_iter, MM.Q.ev_it, MM.Q.itO_some, MM.Q.items_list, MM.Q.items_tup, MM.Q.ev_rg1, MM.Q.rg1_int, MM.Q.ev_lc, MM.Q.ev_lc1, MM.Q.ev_lc2, MM.Q.wipe_nil, MM.Q.wipe_cons, MM.Q.ev_seq, MM.Q.seq_nx, MM.Q.seq_rt, MM.Q.seq_exc, MM.Q.seq_bk, MM.Q.seq_ct, MM.Q.ev_asg, MM.Q.ev_asg1, MM.Q.nxO_some, MM.Q.mg_name, MM.Q.mg_nil, MM.Q.mg_consN, MM.Q.mg_tup, MM.Q.ev_expr, MM.Q.ev_expr1, MM.Q.ev_ret, MM.Q.ev_ret1, MM.Q.ev_retN, MM.Q.ev_skip, MM.Q.ev_brk, MM.Q.ev_cnt, MM.Q.ev_if, MM.Q.if_t, MM.Q.if_f, MM.Q.ev_for, MM.Q.ev_for1, MM.Q.ev_fz, MM.Q.fz_own, MM.Q.fzC_some, MM.Q.fzO_some, MM.Q.fz_d, MM.Q.fz_ref, MM.Q.stO_some, MM.Q.ev_st, MM.Q.ev_st1, MM.Q.ev_st2, MM.Q.ev_st3, MM.Q.ev_setIx, MM.Q.siO_some, MM.Q.ev_par, MM.Q.ev_par1, MM.Q.nones_zero, MM.Q.nones_succ, MM.Q.begin_eq, draw_int, dS_len, dS_app, dS_get, dS_set, sg_app, sg_app2, ag0, ag1, ag2, ag3, as0, as1, as2, as3, al1, al2, al3, dS_trim, dS_trim0, dS_trimc, Int.reduceToNat, Int.toNat_natCast, List.length_map, allD_app, decide_true, decide_false, Bool.not_true, Bool.not_false, Bool.false_and, Bool.and_false, Bool.true_or, Bool.or_true, Bool.or_false, Bool.false_or, ne_eq, not_true_eq_false, not_false_eq_true, beq_self_eq_true,  MM.Q.ev_fn, MM.Q.fin_rt, MM.Q.fin_ref, MM.Q.fin_nx, MM.Q.trim_same, MM.Q.trim_app, MM.Q.ev_len, MM.Q.ev_lst_l, MM.Q.ev_lst_t, MM.Q.ev_lst_r, MM.Q.ev_lst_o, MM.Q.ev_l1, MM.Q.ev_sum, MM.Q.ev_all, MM.Q.ev_any, MM.Q.ev_isi, MM.Q.kind_str, MM.Q.kind_int, MM.Q.kind_bool, MM.Q.kind_none, MM.Q.kind_dict, MM.Q.kind_list, MM.Q.kind_tup, MM.Q.kit_ss, MM.Q.kit_is, MM.Q.kit_bs, MM.Q.kit_ns, MM.Q.kit_ds, MM.Q.kit_ls, MM.Q.kit_ts, MM.Q.ev_repr, MM.Q.ev_join, MM.Q.lenO_some, MM.Q.len_list, MM.Q.len_tup, MM.Q.lnO_some, MM.Q.len_ref, MM.Q.len_own, MM.Q.lisO_some, MM.Q.l1O_some, MM.Q.ints_map, MM.Q.bools_map, MM.Q.strs_map, MM.Q.isiO_some, MM.Q.jnO_some, MM.Q.len_st, MM.Q.add_st, MM.Q.mul_st, MM.Q.ix_st, MM.Q.sl_st, MM.Q.rev_st, MM.Q.eqv_st, MM.Q.st_dec, MM.Q.divmod_int, MM.Q.items_st, MM.Q.allD_mapf, MM.Q.strs_mapf, MM.Q.ints_mapf, MM.Q.bools_mapf, MM.Q.join_ones_some, MM.Q.sl_own, MM.Q.sl_ref, MM.Q.sl_list, MM.Q.slO_some, MM.Q.add_own, MM.Q.add_ref, MM.Q.add_list, MM.Q.catO_some, MM.Q.cutL_map, MM.Q.mg_tupL, MM.Q.ev_ch, MM.Q.ev_ch1, MM.Q.ev_ch2, MM.Q.ch_t, MM.Q.ch_f, MM.Q.ev_ch3, MM.Q.starts_str, MM.Q.ends_str, MM.Q.upper_str, MM.Q.part_str, MM.Q.ev_fmt, MM.Q.ev_fmtR, MM.Q.fmt_st, MM.Q.fmt_int, MM.Q.ev_js_nil, MM.Q.ev_js_cons, MM.Q.ev_js1, MM.Q.ev_js2, MM.Q.jsF_some, MM.Q.js_st, MM.Q.ev_pr_nil, MM.Q.ev_pr_cons, MM.Q.ev_pr1, MM.Q.ev_pr2, MM.Q.ev_pr3, MM.Q.ev_dct, MM.Q.ev_dct1, MM.Q.keys_one, MM.Q.dctF_one, MM.Q.tup_list, MM.Q.tup_tup, MM.Q.tup_st, MM.Q.lst_st, MM.Q.mul_list, MM.Q.mul_tup, MM.Q.ev_popK, MM.Q.in_own, MM.Q.in_ref, MM.Q.in_list, MM.Q.inO_t, MM.Q.inO_f, MM.Q.b2i_t, MM.Q.b2i_f, MM.Q.int_int, MM.Q.int_bool, MM.Q.ev_rg2, MM.Q.rg2_int, MM.Q.ev_en, MM.Q.en_list, MM.Q.en_tup, MM.Q.en_st, MM.Q.ev_sortSc, MM.Q.ev_lenSc, MM.Q.ev_sc1, MM.Q.ev_scL1, MM.Q.ev_sc2, MM.Q.ev_scL2, 
  List.map_cons, List.map_nil, List.length_cons, List.length_nil, List.append_nil, List.nil_append, List.cons_append, List.getElem?_cons_zero, List.getElem?_cons_succ, List.set_cons_zero, List.set_cons_succ, Bool.and_true, Bool.true_and, Option.bind_some, Option.map_some, Nat.reduceAdd, Nat.reduceSub, Nat.add_sub_cancel, Nat.sub_self])
--- imports +b k03turn k03all nmi nml rep
theorem rps_strs {n : Nat} {L : List (List Nat)} (h : ∀ l ∈ L, Gd n l) : rps (L.map pS) = true := by
  induction L with
  | nil => exact rps_nil
  | cons a r ih => rw [List.map_cons, rps_cons, rp_st (h a (List.mem_cons_self ..)), ih fun c hc => h c (List.mem_cons_of_mem _ hc)]; rfl
theorem bulk_strs {n : Nat} {L : List (List Nat)} (h : ∀ l ∈ L, Gd n l) : PyData.bulkAll (L.map pS) ≤ L.length * (n + 1) := by
  induction L with
  | nil => rw [List.map_nil, bulk_nil]; omega
  | cons a r ih =>
    have h1 := (h a (List.mem_cons_self ..)).len
    have h2 := ih fun c hc => h c (List.mem_cons_of_mem _ hc)
    rw [List.map_cons, bulk_cons, bulk_st, List.length_cons, Nat.succ_mul]; omega
theorem depth_strs {L : List (List Nat)} : PyData.depthAll (L.map pS) = 0 := by
  induction L with
  | nil => exact depth_nil
  | cons a r ih => rw [List.map_cons, depth_cons, ih, depth_st]; rfl
/-- the list thrice -/
def tri (x : PyData) : PyData := .list [x, x, x]
theorem tri_rep {L : List (List Nat)} (h : ∀ l ∈ L, Gd 19 l) (hL : L.length ≤ 3300) : Q.repO (some (.list [.tuple (L.map pS), .tuple (L.map pS), .tuple (L.map pS)])) = some (.val (.d (.str (tri (.tuple (L.map pS))).shown))) := by
  have h1 := rps_strs h
  have h2 := bulk_strs h
  have h3 := @depth_strs L
  refine rp_rep ?_ ?_ ?_
  · simp only [rp_list, rps_cons, rps_nil, rp_tup, h1]; rfl
  · simp only [depth_list, depth_tup, depth_cons, depth_nil, h3]; decide
  · simp only [bulk_list, bulk_tup, bulk_cons, bulk_nil]; omega
/-- each name found is one -/
theorem name_turn {o0 o1 o2 o3 o4 o5 o6 o7 o8 o9 o10 o11 o13 : Option Mv} {S : Sg} {n : List Nat} (h : calB n = true) :
    b_law_3 [o0, o1, o2, o3, o4, o5, o6, o7, o8, o9, o10, o11, some (mS n), o13] S = .nx [o0, o1, o2, o3, o4, o5, o6, o7, o8, o9, o10, o11, some (mS n), o13] S := by
  have h16 : sizeLine = 16777216 := PySem.sizeLine_eq
  obtain ⟨a, -, -, -, -, -, l19, g19⟩ := calB_end h
  obtain ⟨m, w, hm, hw, rfl⟩ := of_calB h
  have lm := (of_markB hm).1
  have lw := (of_wordB hw).2.1
  have sh := g19.shaped
  have e : 35 :: (m ++ [45] ++ w ++ [59]) = nameL m w := by simp [nameL]
  unfold b_law_3
  rw [show Str.ofString "#" = Q.st [35] by decide +kernel, show Str.ofString "-" = Q.st [45] by decide +kernel, show Str.ofString ";" = Q.st [59] by decide +kernel]
  walk_at "mm"
  rw [spec_is_name (by omega) g19.ok, h]
  walk_at "mm"
  rw [spec_mark_in (by omega), nameL_mark lm]
  walk_at "mm"
  rw [spec_label_in (by omega), nameL_label lm]
  walk_at "mm"
  rw [e]
  walk_at "mm"
theorem text_turn {o0 o1 o2 o3 o4 o5 o6 o7 o8 o10 o11 o12 o13 : Option Mv} {S : Sg} {w : List Nat} (hw : Gd 1600 w) :
    ∃ p10 p11 p12 : Option Mv, b_law_2 [o0, o1, o2, o3, o4, o5, o6, o7, o8, some (mS w), o10, o11, o12, o13] S = .nx [o0, o1, o2, o3, o4, o5, o6, o7, o8, some (mS w), p10, p11, p12, o13] S := by
  have h16 : sizeLine = 16777216 := PySem.sizeLine_eq
  have lw := hw.len
  have g2 : Gd 3201 (w ++ [10] ++ w) := (hw.app (Gd.one (by decide))).app hw
  have l2 := g2.len
  have e2 : Q.sset (namesL (w ++ [10] ++ w)) = Q.sset (namesL w) := Q.sset_congr fun n => namesL_twice
  have hL : ∀ n ∈ Q.sset (namesL w), calB n = true := fun n hn => (namesL_mem.mp (Q.sset_mem.mp hn)).1
  have hn : (namesL w).length ≤ w.length := by
    have h1 := List.length_filterMap_le (fun p : Nat × Nat => nameAt (w.drop p.2)) (w.zipIdx.filter fun p => p.1 == 35)
    have h2 := List.length_filter_le (fun p : Nat × Nat => p.1 == 35) w.zipIdx
    rw [List.length_zipIdx] at h2
    exact Nat.le_trans h1 h2
  have hs : (Q.sset (namesL w)).length ≤ w.length := Nat.le_trans Q.sset_len hn
  have gL : ∀ n ∈ Q.sset (namesL w), Gd 19 n := fun n hn => let ⟨_, _, _, _, _, _, _, g⟩ := calB_end (hL n hn); g
  have er := tri_rep gL (by omega)
  generalize hA : Q.sset (namesL w) = A at *
  obtain ⟨o', el⟩ := loop_chk (i := 12) (b := b_law_3) (S := S) (R := [o0, o1, o2, o3, o4, o5, o6, o7, o8, some (mS w), some (.d (.tuple (A.map pS))), some (.d (.list [.tuple (A.map pS), .tuple (A.map pS), .tuple (A.map pS)])), o12, o13]) (xs := A.map mS) (o := o12) (by
    intro x hx
    obtain ⟨n, hn, rfl⟩ := List.mem_map.mp hx
    exact name_turn (hL n hn))
  refine ⟨some (.d (.tuple (A.map pS))), some (.d (.list [.tuple (A.map pS), .tuple (A.map pS), .tuple (A.map pS)])), o', ?_⟩
  unfold b_law_2
  rw [show Str.ofString "\n" = Q.st [10] by decide +kernel]
  walk_at "mm"
  rw [spec_all_within (by omega) hw.ok, hA]
  walk_at "mm"
  rw [spec_names_in (by omega) hw.ok, hA]
  walk_at "mm"
  rw [spec_names_in (by omega) hw.ok, hA]
  walk_at "mm"
  rw [spec_names_in (by omega) g2.ok, e2]
  walk_at "mm"
  rw [show List.map (fun a => PyData.str (Q.st a)) A = A.map pS from rfl] at *
  rw [er]
  walk_at "mm"
  rw [show (List.replicate 3 [PyData.tuple (A.map pS)]).flatten = [.tuple (A.map pS), .tuple (A.map pS), .tuple (A.map pS)] from rfl, er]
  walk_at "mm"
  rw [spec_names_in (by omega) hw.ok, hA]
  walk_at "mm"
  rw [List.map_map]
  exact el
theorem law_good (ns : List Int) (hn : ns.length ≤ 63) : ∃ S', f_law [.d (.list (ns.map PyData.int))] [] = .ok (.d (.bool true)) S' := by
  have h16 : sizeLine = 16777216 := PySem.sizeLine_eq
  obtain ⟨D, e0⟩ := deck_eq hn
  obtain ⟨ρ2, S2, e, p3, p4, p5, p6, p7, p8, ws, E, rfl, rfl, hws, hg⟩ := Q.loop_range (g := mgName 3) (b := b_law_1) (n := 8) (ρ := [some (.d (.list (ns.map PyData.int))), some (.ref 1), some (.own 2), none, none, none, none, none, none, none, none, none, none, none]) (S := dS D [(true, Mo.lst [])])
    (P := fun i ρ S => ∃ p3 p4 p5 p6 p7 p8 ws E, ρ = [some (.d (.list (ns.map PyData.int))), some (.ref 1), some (.own 2), p3, p4, p5, p6, p7, p8, none, none, none, none, none] ∧ S = dS E [(true, Mo.lst (ws.map mS))] ∧ ws.length = i ∧ ∀ w ∈ ws, Gd 1600 w) (by
      rintro i hi ρ S ⟨p3, p4, p5, p6, p7, p8, ws, E, rfl, rfl, hl, hg⟩
      obtain ⟨q4, q5, q6, q7, q8, F, w, e, hw⟩ := turn_ok (o0 := some (.d (.list (ns.map PyData.int)))) (o3 := some (.d (.int (i : Nat)))) (o4 := p4) (o5 := p5) (o6 := p6) (o7 := p7) (o8 := p8) (o9 := none) (o10 := none) (o11 := none) (o12 := none) (o13 := none) E (ws := ws) (by omega)
      refine ⟨_, _, _, rfl, e, _, q4, q5, q6, q7, q8, ws ++ [w], F, rfl, rfl, by rw [List.length_append, hl]; rfl, fun x hx => ?_⟩
      rcases List.mem_append.mp hx with h | h
      · exact hg x h
      · rw [List.mem_singleton.mp h]; exact hw) ⟨none, none, none, none, none, none, [], D, rfl, rfl, rfl, fun _ h => nomatch h⟩
  have hws' : ws.length = 8 := hws
  obtain ⟨ρ3, S3, e2, p9, p10, p11, p12, rfl, rfl⟩ := Q.loop_ex (g := mgName 9) (b := b_law_2) (xs := (ws ++ ws.take 2).map mS) (ρ := [some (.d (.list (ns.map PyData.int))), some (.ref 1), some (.own 2), p3, p4, p5, p6, p7, p8, none, none, none, none, none]) (S := dS E [(true, Mo.lst (ws.map mS))])
    (P := fun ρ S => ∃ p9 p10 p11 p12, ρ = [some (.d (.list (ns.map PyData.int))), some (.ref 1), some (.own 2), p3, p4, p5, p6, p7, p8, p9, p10, p11, p12, none] ∧ S = dS E [(true, Mo.lst (ws.map mS))]) (by
      rintro x hx ρ S ⟨p9, p10, p11, p12, rfl, rfl⟩
      obtain ⟨w, hw, rfl⟩ := List.mem_map.mp hx
      have gw : Gd 1600 w := (List.mem_append.mp hw).elim (hg w) fun h => hg w (List.mem_of_mem_take h)
      obtain ⟨q10, q11, q12, e⟩ := text_turn (o0 := some (.d (.list (ns.map PyData.int)))) (o1 := some (.ref 1)) (o2 := some (.own 2)) (o3 := p3) (o4 := p4) (o5 := p5) (o6 := p6) (o7 := p7) (o8 := p8) (o10 := p10) (o11 := p11) (o12 := p12) (o13 := none) (S := dS E [(true, Mo.lst (ws.map mS))]) gw
      exact ⟨_, _, _, rfl, e, _, _, _, _, rfl, rfl⟩) ⟨_, _, _, _, rfl, rfl⟩
  unfold f_law m_law
  walk_at "mm"
  rw [e0]
  walk_at "mm"
  rw [e]
  walk_at "mm"
  have lt : (ws.take 2).length ≤ 2 := List.length_take_le ..
  rw [show (some (2 : Int)) = some ((2 : Nat) : Int) from rfl, Q.cutL_to, List.map_map, show (Mv.d ∘ fun a => PyData.str (Q.st a)) = mS from rfl, Q.catO_some (by rw [List.length_map, List.length_map]; omega), ← List.map_append]
  walk_at "mm"
  rw [List.map_map, show (Mv.d ∘ fun a => PyData.str (Q.st a)) = mS from rfl, e2]
  walk_at "mm"
  exact ⟨_, rfl⟩

end Law
end
section
open PySem PySem.W PyProof.Rows
set_option maxHeartbeats 0 in
theorem PySem.Challenge.cw_madestore_k03_names_in_texts_holds : PySem.Challenge.rw_madestore_k03_names_in_texts.Holds := by
  w_on; o_law; k_head; (case hw => w_witness2)
  k_fill
  refine MM.walk_end (l := PySem.Challenge.rw_madestore_k03_names_in_texts) (n := 63) (k := 6) (x := "_law_script") rfl (by decide) rfl ⟨rfl, by decide, by decide⟩ (fun w h Y => PySem.W.kIn_of Y) ?F
  case F =>
    intro w mg fa h KX G hmg
    obtain ⟨fd, m, h1, h2, h3⟩ := by
      refine' Law.all_mk (l := PySem.Challenge.rw_madestore_k03_names_in_texts) (w := w) KX G hmg ?h_LETTERS ?h_LONGEST_LABEL ?h_FIGURES ?h_LONG ?h_BEGIN ?h_BETWEEN ?h_END ?h_AT ?h_LONGEST ?h_all ?h_enumerate ?h_int ?h_isinstance ?h_len ?h_list ?h_range ?h_repr ?h_set ?h_sorted ?h_str ?h_sum ?h_tuple ?g_is_label ?l_is_label ?c_is_label ?p_is_label ?g_is_mark ?l_is_mark ?c_is_mark ?p_is_mark ?g_mark_in ?l_mark_in ?c_mark_in ?p_mark_in ?g_label_in ?l_label_in ?c_label_in ?p_label_in ?g_L_deck ?l_L_deck ?c_L_deck ?p_L_deck ?g_L_draw ?l_L_draw ?c_L_draw ?p_L_draw ?g_L_is_word ?l_L_is_word ?c_L_is_word ?p_L_is_word ?g_L_is_mark ?l_L_is_mark ?c_L_is_mark ?p_L_is_mark ?g_L_called ?l_L_called ?c_L_called ?p_L_called ?g_is_name ?l_is_name ?c_is_name ?p_is_name ?g_L_pick ?l_L_pick ?c_L_pick ?p_L_pick ?g_L_words ?l_L_words ?c_L_words ?p_L_words ?g_L_is_called ?l_L_is_called ?c_L_is_called ?p_L_is_called ?g_L_marks ?l_L_marks ?c_L_marks ?p_L_marks ?g_name_at ?l_name_at ?c_name_at ?p_name_at ?g_L_piece ?l_L_piece ?c_L_piece ?p_L_piece ?g_L_all_within ?l_L_all_within ?c_L_all_within ?p_L_all_within ?g_places_in ?l_places_in ?c_places_in ?p_places_in ?g_names_in ?l_names_in ?c_names_in ?p_names_in ?g_law ?l_law ?c_law ?p_law
      (case h_LETTERS => k_is); (case h_LONGEST_LABEL => k_is); (case h_FIGURES => k_is); (case h_LONG => k_is); (case h_BEGIN => k_is); (case h_BETWEEN => k_is); (case h_END => k_is); (case h_AT => k_is); (case h_LONGEST => k_is); (case h_all => k_is); (case h_enumerate => k_is); (case h_int => k_is); (case h_isinstance => k_is); (case h_len => k_is); (case h_list => k_is); (case h_range => k_is); (case h_repr => k_is); (case h_set => k_is); (case h_sorted => k_is); (case h_str => k_is); (case h_sum => k_is); (case h_tuple => k_is); (case g_is_label => k_is); (case l_is_label => k_is); (case c_is_label => k_is); (case p_is_label => k_is); (case g_is_mark => k_is); (case l_is_mark => k_is); (case c_is_mark => k_is); (case p_is_mark => k_is); (case g_mark_in => k_is); (case l_mark_in => k_is); (case c_mark_in => k_is); (case p_mark_in => k_is); (case g_label_in => k_is); (case l_label_in => k_is); (case c_label_in => k_is); (case p_label_in => k_is); (case g_L_deck => k_is); (case l_L_deck => k_is); (case c_L_deck => k_is); (case p_L_deck => k_is); (case g_L_draw => k_is); (case l_L_draw => k_is); (case c_L_draw => k_is); (case p_L_draw => k_is); (case g_L_is_word => k_is); (case l_L_is_word => k_is); (case c_L_is_word => k_is); (case p_L_is_word => k_is); (case g_L_is_mark => k_is); (case l_L_is_mark => k_is); (case c_L_is_mark => k_is); (case p_L_is_mark => k_is); (case g_L_called => k_is); (case l_L_called => k_is); (case c_L_called => k_is); (case p_L_called => k_is); (case g_is_name => k_is); (case l_is_name => k_is); (case c_is_name => k_is); (case p_is_name => k_is); (case g_L_pick => k_is); (case l_L_pick => k_is); (case c_L_pick => k_is); (case p_L_pick => k_is); (case g_L_words => k_is); (case l_L_words => k_is); (case c_L_words => k_is); (case p_L_words => k_is); (case g_L_is_called => k_is); (case l_L_is_called => k_is); (case c_L_is_called => k_is); (case p_L_is_called => k_is); (case g_L_marks => k_is); (case l_L_marks => k_is); (case c_L_marks => k_is); (case p_L_marks => k_is); (case g_name_at => k_is); (case l_name_at => k_is); (case c_name_at => k_is); (case p_name_at => k_is); (case g_L_piece => k_is); (case l_L_piece => k_is); (case c_L_piece => k_is); (case p_L_piece => k_is); (case g_L_all_within => k_is); (case l_L_all_within => k_is); (case c_L_all_within => k_is); (case p_L_all_within => k_is); (case g_places_in => k_is); (case l_places_in => k_is); (case c_places_in => k_is); (case p_places_in => k_is); (case g_names_in => k_is); (case l_names_in => k_is); (case c_names_in => k_is); (case p_names_in => k_is); (case g_law => k_is); (case l_law => k_is); (case c_law => k_is); (case p_law => k_is)
    exact ⟨fd, m, h1, h2, fun ns hn => by rw [h3]; exact Law.law_good ns hn⟩
end
