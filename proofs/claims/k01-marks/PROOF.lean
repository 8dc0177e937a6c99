import PyProof.Rows.All
import Wide.All
import OpenK.AllK
import Wide.FinOn
import HandS.ForMost
import HandS.ForExc
import HandS.Flow
import HandS.Style
import HandS.StrMore
import HandS.IsInst
import HandS.CallSlots
import HandS.TupLe
import HandS.FStr
import HandS.Small
import HandS.Deep
import HandS.Wide
import HandS.TupAny
import KE.KRevSl
import PySem.Challenge.RW_madestore_k01_marks_of_texts
section
set_option Elab.async false
set_option linter.all false
set_option maxRecDepth 100000
set_option maxHeartbeats 4000000
set_option autoImplicit false
/-! MM: a functional reading over the hand layer: values are data, mutable things are cells of a store. -/
namespace MM
open PySem PySem.Spec PyProof.Rows L2

/-! ### values, cells, results -/
/-- a value: data that never changes, a cell of the store that may be handed on, a cell of one frame's own, a thing of the written part -/
inductive Mv where
  | d (x : PyData) | ref (i : Nat) | own (i : Nat) | adr (a : Addr) | ty (n : String)
inductive Mo where
  | lst (xs : List Mv) | tup (xs : List Mv) | dct (kvs : List (Key × Mv)) | ins (C : Addr) (fs : List (Str × Mv)) | gone
abbrev Sg := List (Bool × Mo)
abbrev Rho := List (Option Mv)
abbrev Io := List (Bool × Addr)
structure Ex where
  cls : Value
  fs : Option (List (Str × Mv))
inductive Res (α : Type) where
  | ok (x : α) (S : Sg) | exc (e : Ex) (S : Sg) | bad
def Res.bind {α β : Type} : Res α → (α → Sg → Res β) → Res β
  | .ok x S, f => f x S
  | .exc e S, _ => .exc e S
  | .bad, _ => .bad
abbrev ME := Rho → Sg → Res Mv
abbrev MT := Rho → Sg → Res Bool
abbrev MA := Rho → Sg → Res (List Mv)
inductive RS where
  | nx (ρ : Rho) (S : Sg) | rt (x : Mv) (S : Sg) | bk (ρ : Rho) (S : Sg) | ct (ρ : Rho) (S : Sg) | exc (e : Ex) (ρ : Rho) (S : Sg) | bad
abbrev MS := Rho → Sg → RS

/-! ### frozen data -/
def FzL (K : PySem.W.Frag) (H : Hp) (a : Addr) (xs : List V) : Prop :=
  (∃ o, H a = some (.frz o (.lst xs))) ∨ ∃ (its : Array Value) (n : Nat), K.lookup a = some { cls := .type "list", data := .seq its n } ∧ its.size ≤ sizeLine ∧ Vals xs its.toList
/-- a list whose object is a plain one -/
def PlnL (K : PySem.W.Frag) (H : Hp) (a : Addr) (xs : List V) : Prop := H a = some (.lst xs) ∨ FzL K H a xs
theorem FzL.sq {K : PySem.W.Frag} {H : Hp} {a : Addr} {xs : List V} (h : FzL K H a xs) : SqL K H a xs := by
  rcases h with h | ⟨its, n, h1, h2, h3⟩
  · exact .inl (.inr h)
  · exact .inr ⟨_, its, n, h1, rfl, rfl, rfl, h2, h3⟩
theorem PlnL.sq {K : PySem.W.Frag} {H : Hp} {a : Addr} {xs : List V} (h : PlnL K H a xs) : SqL K H a xs := by
  rcases h with h | h
  · exact .inl (.inl h)
  · exact h.sq
theorem PlnL.obj {X : Cx} {pins : List (Addr × Obj)} {σ : L2.St} {H : Hp} {s : Shared} {a : Addr} {xs : List V} (I : Inv X pins σ H s) (h : PlnL X.K H a xs) :
    ∃ (its : List Value) (n : Nat), s.heap.get? a = some { cls := .type "list", data := .seq its.toArray n } ∧ Vals xs its ∧ xs.length ≤ sizeLine := by
  rcases h with h | ⟨o, h⟩ | ⟨its, n, h1, h2, h3⟩
  · obtain ⟨z, its, n, r, e⟩ := I.hok a _ h
    exact ⟨its, n, e, r, z⟩
  · obtain ⟨_, z, its, n, r, e⟩ := I.hok a _ h
    exact ⟨its, n, e, r, z⟩
  · refine ⟨its.toList, n, ?_, h3, by rw [h3.length]; simpa using h2⟩
    have e := I.kIn _ _ h1
    simpa using e
def keyD : Key → PyData
  | .inl i => .int i
  | .inr x => .str x
mutual
inductive FD (K : PySem.W.Frag) (H : Hp) : PyData → V → Prop
  | non : FD K H .none .non
  | bl (b : Bool) : FD K H (.bool b) (.bl b)
  | int (i : Int) : FD K H (.int i) (.int i)
  | str (x : Str) : FD K H (.str x) (.str x)
  | lst {a : Addr} {xs : List V} {ds : List PyData} : FzL K H a xs → FDs K H ds xs → FD K H (.list ds) (.ref a)
  | tup {a : Addr} {xs : List V} {ds : List PyData} : SqT K H a xs → FDs K H ds xs → FD K H (.tuple ds) (.ref a)
  | dct {a : Addr} {o : Obj} {kvs : List (Key × V)} {ds : List (PyData × PyData)} : H a = some (.frz o (.dK kvs)) → FDk K H ds kvs → FD K H (.dict ds) (.ref a)
inductive FDs (K : PySem.W.Frag) (H : Hp) : List PyData → List V → Prop
  | nil : FDs K H [] []
  | cons {v : V} {vs : List V} {d : PyData} {ds : List PyData} : FD K H d v → FDs K H ds vs → FDs K H (d :: ds) (v :: vs)
inductive FDk (K : PySem.W.Frag) (H : Hp) : List (PyData × PyData) → List (Key × V) → Prop
  | nil : FDk K H [] []
  | cons {k : Key} {v : V} {vs : List (Key × V)} {d : PyData} {ds : List (PyData × PyData)} : FD K H d v → FDk K H ds vs → FDk K H ((keyD k, d) :: ds) ((k, v) :: vs)
end

/-- what never changes stays -/
structure Grow (H H' : Hp) : Prop where
  tup : ∀ a xs, H a = some (.tup xs) → H' a = some (.tup xs)
  frz : ∀ a o u, H a = some (.frz o u) → H' a = some (.frz o u)
theorem Grow.refl (H : Hp) : Grow H H := ⟨fun _ _ h => h, fun _ _ _ h => h⟩
theorem Grow.trans {H H1 H2 : Hp} (a : Grow H H1) (b : Grow H1 H2) : Grow H H2 := ⟨fun c xs h => b.tup c xs (a.tup c xs h), fun c o u h => b.frz c o u (a.frz c o u h)⟩
theorem Grow.new {H : Hp} {p : Addr} {o : HO} (h : H p = none) : Grow H (upd H p o) :=
  ⟨fun a xs e => by rw [upd_ne (ne_of_none e h)]; exact e, fun a ob u e => by rw [upd_ne (ne_of_none e h)]; exact e⟩
theorem Grow.write {H : Hp} {p : Addr} {o u : HO} (h : H p = some u) (m : Mut (some u)) : Grow H (upd H p o) :=
  ⟨fun a xs e => by rw [upd_ne (fun z => by rw [z, h] at e; cases e; exact m)]; exact e, fun a ob w e => by rw [upd_ne (fun z => by rw [z, h] at e; cases e; exact m)]; exact e⟩
section
variable {K : PySem.W.Frag} {H H' : Hp}
theorem FzL.mono {a : Addr} {xs : List V} (g : Grow H H') (h : FzL K H a xs) : FzL K H' a xs := by
  rcases h with ⟨o, h⟩ | h
  · exact .inl ⟨o, g.frz _ _ _ h⟩
  · exact .inr h
theorem SqT_mono {a : Addr} {xs : List V} (g : Grow H H') (h : SqT K H a xs) : SqT K H' a xs := by
  rcases h with (h | ⟨o, h⟩) | h
  · exact .inl (.inl (g.tup _ _ h))
  · exact .inl (.inr ⟨o, g.frz _ _ _ h⟩)
  · exact .inr h
mutual
theorem FD.mono (g : Grow H H') : ∀ {d : PyData} {v : V}, FD K H d v → FD K H' d v
  | _, _, .non => .non
  | _, _, .bl b => .bl b
  | _, _, .int i => .int i
  | _, _, .str x => .str x
  | _, _, .lst h hs => .lst (h.mono g) (FDs.mono g hs)
  | _, _, .tup h hs => .tup (SqT_mono g h) (FDs.mono g hs)
  | _, _, .dct h hs => .dct (g.frz _ _ _ h) (FDk.mono g hs)
theorem FDs.mono (g : Grow H H') : ∀ {ds : List PyData} {vs : List V}, FDs K H ds vs → FDs K H' ds vs
  | _, _, .nil => .nil
  | _, _, .cons h hs => .cons (FD.mono g h) (FDs.mono g hs)
theorem FDk.mono (g : Grow H H') : ∀ {ds : List (PyData × PyData)} {vs : List (Key × V)}, FDk K H ds vs → FDk K H' ds vs
  | _, _, .nil => .nil
  | _, _, .cons h hs => .cons (FD.mono g h) (FDk.mono g hs)
end

/-! ### values at a heap -/
def XV (K : PySem.W.Frag) (ι : Io) (H : Hp) : Mv → V → Prop
  | .d x, v => FD K H x v
  | .ref i, v => ∃ a, ι[i]? = some (false, a) ∧ v = .ref a
  | .own i, v => ∃ a, ι[i]? = some (true, a) ∧ v = .ref a
  | .adr a, v => v = .ref a
  | .ty n, v => v = .ty n
def Mv.free : Mv → Bool
  | .own _ => false
  | _ => true
/-- a value that may be stored -/
def XC (K : PySem.W.Frag) (ι : Io) (H : Hp) (x : Mv) (v : V) : Prop := x.free = true ∧ XV K ι H x v
abbrev XVs (K : PySem.W.Frag) (ι : Io) (H : Hp) : List Mv → List V → Prop := Paired (XV K ι H)
abbrev XCs (K : PySem.W.Frag) (ι : Io) (H : Hp) : List Mv → List V → Prop := Paired (XC K ι H)
def OV (K : PySem.W.Frag) (ι : Io) (H : Hp) (a : Addr) : Mo → Prop
  | .lst xs => ∃ vs, H a = some (.lst vs) ∧ XCs K ι H xs vs
  | .tup xs => ∃ vs, H a = some (.tup vs) ∧ XCs K ι H xs vs
  | .dct kvs => ∃ kv, H a = some (.dK kv) ∧ Paired (fun (p : Key × Mv) (q : Key × V) => p.1 = q.1 ∧ XC K ι H p.2 q.2) kvs kv
  | .ins C fs => ∃ dx fv, H a = some (.ins C dx fv) ∧ Paired (fun (p : Str × Mv) (q : Str × V) => p.1 = q.1 ∧ XC K ι H p.2 q.2) fs fv
  | .gone => True
structure Rl (K : PySem.W.Frag) (ι : Io) (S : Sg) (H : Hp) : Prop where
  flag : ι.map (·.1) = S.map (·.1)
  nd : (ι.map (·.2)).Nodup
  live : ∀ p ∈ ι, H p.2 ≠ none
  cell : ∀ (i : Nat) (b : Bool) (o : Mo) (a : Addr), S[i]? = some (b, o) → ι[i]? = some (b, a) → OV K ι H a o
/-- the store grew, what never changes stays, what is no cell stays -/
structure Sub (ι : Io) (H : Hp) (ι' : Io) (H' : Hp) : Prop where
  pre : ∃ t, ι' = ι ++ t ∧ ∀ q ∈ t, H q.2 = none
  grow : Grow H H'
  keep : ∀ p o, H p = some o → (∀ q ∈ ι, q.2 ≠ p) → H' p = some o
  live : ∀ p, H p ≠ none → H' p ≠ none
theorem Sub.same {ι : Io} {H H' : Hp} (g : Grow H H') (k : ∀ p o, H p = some o → (∀ q ∈ ι, q.2 ≠ p) → H' p = some o) (l : ∀ p, H p ≠ none → H' p ≠ none) : Sub ι H ι H' :=
  ⟨⟨[], (List.append_nil _).symm, fun _ h => nomatch h⟩, g, k, l⟩
theorem Sub.refl (ι : Io) (H : Hp) : Sub ι H ι H := Sub.same (Grow.refl H) (fun _ _ h _ => h) fun _ h => h
theorem Sub.trans {ι ι1 ι2 : Io} {H H1 H2 : Hp} (a : Sub ι H ι1 H1) (b : Sub ι1 H1 ι2 H2) : Sub ι H ι2 H2 := by
  obtain ⟨t, rfl, ht⟩ := a.pre
  obtain ⟨u, rfl, hu⟩ := b.pre
  refine ⟨⟨t ++ u, by rw [List.append_assoc], fun q hq => ?_⟩, a.grow.trans b.grow, fun p o h hp => ?_, fun p h => b.live p (a.live p h)⟩
  · rcases List.mem_append.mp hq with hq | hq
    · exact ht q hq
    · cases e : H q.2 with
      | none => rfl
      | some o => exact (a.live q.2 (by rw [e]; exact fun z => nomatch z) (hu q hq)).elim
  · refine b.keep p o (a.keep p o h hp) fun q hq => ?_
    rcases List.mem_append.mp hq with hq | hq
    · exact hp q hq
    · exact fun z => by rw [← z, ht q hq] at h; cases h
theorem Sub.at {ι ι' : Io} {H H' : Hp} (s : Sub ι H ι' H') {i : Nat} {p : Bool × Addr} (h : ι[i]? = some p) : ι'[i]? = some p := by
  obtain ⟨t, rfl, _⟩ := s.pre
  rw [List.getElem?_append_left (List.getElem?_eq_some_iff.mp h).1]; exact h
theorem Sub.new {ι : Io} {H : Hp} {p : Addr} {u : HO} (hp : H p = none) : Sub ι H ι (upd H p u) :=
  Sub.same (Grow.new hp) (fun q o e _ => by rw [upd_ne (ne_of_none e hp)]; exact e) fun q h => by
    by_cases e : q = p
    · rw [e, upd_same]; exact fun z => nomatch z
    · rw [upd_ne e]; exact h
theorem Sub.put {ι : Io} {H : Hp} {p : Addr} {b : Bool} {u v : HO} (hi : (b, p) ∈ ι) (hv : H p = some v) (m : Mut (some v)) : Sub ι H ι (upd H p u) :=
  Sub.same (Grow.write hv m) (fun q o e ne => by rw [upd_ne (fun z => ne _ hi z.symm)]; exact e) fun q h => by
    by_cases e : q = p
    · rw [e, upd_same]; exact fun z => nomatch z
    · rw [upd_ne e]; exact h
/-- a fresh thing is changed again -/
theorem Sub.again {ι ι' : Io} {H H' : Hp} {p : Addr} {u v : HO} (s : Sub ι H ι' H') (h0 : H p = none) (hv : H' p = some v) : Sub ι H ι' (upd H' p u) := by
  have ne : ∀ q o, H q = some o → q ≠ p := fun q o e z => by rw [z, h0] at e; cases e
  refine ⟨s.pre, ⟨fun a xs e => ?_, fun a o w e => ?_⟩, fun q o e hq => ?_, fun q h => ?_⟩
  · rw [upd_ne (ne a _ e)]; exact s.grow.tup a xs e
  · rw [upd_ne (ne a _ e)]; exact s.grow.frz a o w e
  · rw [upd_ne (ne q _ e)]; exact s.keep q o e hq
  · by_cases e : q = p
    · rw [e, upd_same]; exact fun z => nomatch z
    · rw [upd_ne e]; exact s.live q h
/-- a fresh thing becomes a cell -/
theorem Sub.cell {ι ι' : Io} {H H' : Hp} {p : Addr} {b : Bool} (s : Sub ι H ι' H') (h0 : H p = none) : Sub ι H (ι' ++ [(b, p)]) H' := by
  obtain ⟨t, rfl, ht⟩ := s.pre
  refine ⟨⟨t ++ [(b, p)], by rw [List.append_assoc], fun q hq => ?_⟩, s.grow, s.keep, s.live⟩
  rcases List.mem_append.mp hq with hq | hq
  · exact ht q hq
  · have : q = (b, p) := by simpa using hq
    rw [this]; exact h0
variable {ι ι' : Io} {S S' : Sg}
theorem XV.grown (hp : ∃ t, ι' = ι ++ t) (g : Grow H H') : ∀ {x : Mv} {v : V}, XV K ι H x v → XV K ι' H' x v
  | .d _, _, h => FD.mono g h
  | .ref _, _, ⟨a, h, e⟩ => ⟨a, by obtain ⟨t, rfl⟩ := hp; rw [List.getElem?_append_left (List.getElem?_eq_some_iff.mp h).1]; exact h, e⟩
  | .own _, _, ⟨a, h, e⟩ => ⟨a, by obtain ⟨t, rfl⟩ := hp; rw [List.getElem?_append_left (List.getElem?_eq_some_iff.mp h).1]; exact h, e⟩
  | .adr _, _, h => h
  | .ty _, _, h => h
theorem Sub.pre' {ι ι' : Io} {H H' : Hp} (s : Sub ι H ι' H') : ∃ t, ι' = ι ++ t := let ⟨t, e, _⟩ := s.pre; ⟨t, e⟩
theorem XV.mono (s : Sub ι H ι' H') {x : Mv} {v : V} (h : XV K ι H x v) : XV K ι' H' x v := h.grown s.pre' s.grow
theorem XC.mono (s : Sub ι H ι' H') {x : Mv} {v : V} (h : XC K ι H x v) : XC K ι' H' x v := ⟨h.1, h.2.mono s⟩
theorem XVs.mono (s : Sub ι H ι' H') {xs : List Mv} {vs : List V} (h : XVs K ι H xs vs) : XVs K ι' H' xs vs := L2.Paired.mapP h fun _ _ r => r.mono s
theorem XCs.mono (s : Sub ι H ι' H') {xs : List Mv} {vs : List V} (h : XCs K ι H xs vs) : XCs K ι' H' xs vs := L2.Paired.mapP h fun _ _ r => r.mono s
theorem XCs.grown (hp : ∃ t, ι' = ι ++ t) (g : Grow H H') {xs : List Mv} {vs : List V} (h : XCs K ι H xs vs) : XCs K ι' H' xs vs := L2.Paired.mapP h fun _ _ r => ⟨r.1, r.2.grown hp g⟩
theorem XCs.xv {xs : List Mv} {vs : List V} (h : XCs K ι H xs vs) : XVs K ι H xs vs := L2.Paired.mapP h fun _ _ r => r.2
/-- contents carried over -/
theorem OV.grown (hp : ∃ t, ι' = ι ++ t) (g : Grow H H') {a : Addr} {o : Mo} (e : H' a = H a) (h : OV K ι H a o) : OV K ι' H' a o := by
  cases o with
  | lst xs => obtain ⟨vs, e1, r⟩ := h; exact ⟨vs, e.trans e1, XCs.grown hp g r⟩
  | tup xs => obtain ⟨vs, e1, r⟩ := h; exact ⟨vs, e.trans e1, XCs.grown hp g r⟩
  | dct kvs => obtain ⟨kv, e1, r⟩ := h; exact ⟨kv, e.trans e1, L2.Paired.mapP r fun _ _ q => ⟨q.1, q.2.1, q.2.2.grown hp g⟩⟩
  | ins C fs => obtain ⟨dx, fv, e1, r⟩ := h; exact ⟨dx, fv, e.trans e1, L2.Paired.mapP r fun _ _ q => ⟨q.1, q.2.1, q.2.2.grown hp g⟩⟩
  | gone => trivial
theorem OV.carry (s : Sub ι H ι' H') {a : Addr} {o : Mo} (e : H' a = H a) (h : OV K ι H a o) : OV K ι' H' a o := OV.grown s.pre' s.grow e h
def LR (K : PySem.W.Frag) (ι : Io) (H : Hp) (ρ : Rho) (σ : L2.St) : Prop :=
  ρ.length = σ.length ∧ ∀ (i : Nat) (x : Mv), ρ[i]? = some (some x) → ∃ v, σ[i]? = some (some v) ∧ XV K ι H x v
theorem LR.mono (s : Sub ι H ι' H') {ρ : Rho} {σ : L2.St} (h : LR K ι H ρ σ) : LR K ι' H' ρ σ :=
  ⟨h.1, fun i x e => let ⟨v, e1, r⟩ := h.2 i x e; ⟨v, e1, r.mono s⟩⟩
theorem LR.set {ρ : Rho} {σ : L2.St} (h : LR K ι H ρ σ) (i : Nat) {x : Mv} {v : V} (r : XV K ι H x v) : LR K ι H (ρ.set i (some x)) (σ.set i (some v)) := by
  refine ⟨by rw [List.length_set, List.length_set]; exact h.1, fun j y e => ?_⟩
  by_cases hj : i = j
  · subst hj
    by_cases hl : i < ρ.length
    · rw [List.getElem?_set_self hl] at e
      cases e
      exact ⟨v, by rw [List.getElem?_set_self (h.1 ▸ hl)], r⟩
    · rw [List.getElem?_eq_none (by rw [List.length_set]; omega)] at e; cases e
  · rw [List.getElem?_set_ne hj] at e
    obtain ⟨u, e1, r1⟩ := h.2 j y e
    exact ⟨u, by rw [List.getElem?_set_ne hj]; exact e1, r1⟩
def ExR (K : PySem.W.Frag) (ι : Io) (H : Hp) (e : Ex) (d : Option Addr) : Prop :=
  match e.fs with
  | none => True
  | some l => ∃ dd kv, d = some dd ∧ H dd = some (.xd kv) ∧ Paired (fun (p : Str × Mv) (q : Str × V) => p.1 = q.1 ∧ XV K ι H p.2 q.2) l kv

/-! ### the store's moves -/
theorem Rl.len (h : Rl K ι S H) : ι.length = S.length := by
  have := congrArg List.length h.flag
  simpa using this
theorem Rl.at (h : Rl K ι S H) {i : Nat} {b : Bool} {o : Mo} (e : S[i]? = some (b, o)) : ∃ a, ι[i]? = some (b, a) ∧ OV K ι H a o := by
  have h1 : (ι.map (·.1))[i]? = some b := by rw [h.flag, List.getElem?_map, e]; rfl
  rw [List.getElem?_map] at h1
  cases q : ι[i]? with
  | none => rw [q] at h1; cases h1
  | some p =>
    obtain ⟨b', a⟩ := p
    rw [q] at h1
    cases h1
    exact ⟨a, rfl, h.cell i b' o a e q⟩
/-- a new cell -/
theorem Rl.push (h : Rl K ι S H) {p : Addr} {u : HO} {b : Bool} {o : Mo} (hp : H p = none) (hu : OV K (ι ++ [(b, p)]) (upd H p u) p o) :
    Rl K (ι ++ [(b, p)]) (S ++ [(b, o)]) (upd H p u) ∧ Sub ι H (ι ++ [(b, p)]) (upd H p u) := by
  have sb : Sub ι H (ι ++ [(b, p)]) (upd H p u) := (Sub.new hp).cell hp
  refine ⟨⟨by simp [h.flag], ?_, fun q hq => ?_, fun i c w a e1 e2 => ?_⟩, sb⟩
  · rw [List.map_append]
    refine List.nodup_append.mpr ⟨h.nd, by simp, fun x hx y hy e => ?_⟩
    have hy' : y = p := by simpa using hy
    obtain ⟨q, hq, rfl⟩ := List.mem_map.mp hx
    exact h.live q hq (by rw [e, hy', hp])
  · rcases List.mem_append.mp hq with hq | hq
    · have : q.2 ≠ p := fun z => h.live q hq (by rw [z]; exact hp)
      rw [upd_ne this]; exact h.live q hq
    · have : q = (b, p) := by simpa using hq
      rw [this, upd_same]; exact fun z => by cases z
  · by_cases hi : i < S.length
    · rw [List.getElem?_append_left hi] at e1
      rw [List.getElem?_append_left (by rw [h.len]; exact hi)] at e2
      refine OV.carry sb ?_ (h.cell i c w a e1 e2)
      have hm : (c, a) ∈ ι := List.mem_of_getElem? e2
      exact upd_ne fun z => h.live _ hm (by rw [show ((c, a) : Bool × Addr).2 = a from rfl, z]; exact hp)
    · have hl : (S ++ [(b, o)]).length = S.length + 1 := by simp
      have hlt := (List.getElem?_eq_some_iff.mp e1).1
      have ei : i = S.length := by omega
      subst ei
      rw [List.getElem?_append_right (Nat.le_refl _)] at e1
      rw [List.getElem?_append_right (by rw [h.len]; exact Nat.le_refl _), h.len] at e2
      simp at e1 e2
      obtain ⟨rfl, rfl⟩ := e1
      obtain ⟨_, rfl⟩ := e2
      exact hu
/-- something new beside the store -/
theorem Rl.beside (h : Rl K ι S H) {p : Addr} {u : HO} (hp : H p = none) : Rl K ι S (upd H p u) ∧ Sub ι H ι (upd H p u) := by
  have sb : Sub ι H ι (upd H p u) := Sub.new hp
  have ne : ∀ q ∈ ι, q.2 ≠ p := fun q hq z => h.live q hq (by rw [z]; exact hp)
  refine ⟨⟨h.flag, h.nd, fun q hq => by rw [upd_ne (ne q hq)]; exact h.live q hq, fun i c w a e1 e2 => ?_⟩, sb⟩
  exact OV.carry sb (upd_ne (ne _ (List.mem_of_getElem? e2))) (h.cell i c w a e1 e2)
/-- what is tracked and no cell of the store changes -/
theorem Rl.aside (h : Rl K ι S H) {p : Addr} {u v : HO} (hp : H p = some v) (m : Mut (some v)) (ne : ∀ q ∈ ι, q.2 ≠ p) : Rl K ι S (upd H p u) := by
  refine ⟨h.flag, h.nd, fun q hq => by rw [upd_ne (ne q hq)]; exact h.live q hq, fun i c w a e1 e2 => ?_⟩
  exact OV.grown ⟨[], (List.append_nil _).symm⟩ (Grow.write hp m) (upd_ne (ne _ (List.mem_of_getElem? e2))) (h.cell i c w a e1 e2)
theorem nodup_at {ι : Io} (nd : (ι.map (·.2)).Nodup) {i j : Nat} {b c : Bool} {a : Addr} (hi : ι[i]? = some (b, a)) (hj : ι[j]? = some (c, a)) : i = j := by
  have h1 := List.getElem?_eq_some_iff.mp hi
  have h2 := List.getElem?_eq_some_iff.mp hj
  obtain ⟨l1, e1⟩ := h1
  obtain ⟨l2, e2⟩ := h2
  have n1 : i < (ι.map (·.2)).length := by simpa using l1
  have n2 : j < (ι.map (·.2)).length := by simpa using l2
  refine (List.getElem_inj (h₀ := n1) (h₁ := n2) nd).mp ?_
  rw [List.getElem_map, List.getElem_map, e1, e2]
/-- a cell is written -/
theorem Rl.put (h : Rl K ι S H) {i : Nat} {b : Bool} {o : Mo} {a : Addr} {u v : HO} (hS : ∃ o', S[i]? = some (b, o')) (hi : ι[i]? = some (b, a)) (hv : H a = some v) (m : Mut (some v))
    (ho : OV K ι (upd H a u) a o) : Rl K ι (S.set i (b, o)) (upd H a u) ∧ Sub ι H ι (upd H a u) := by
  have sb : Sub ι H ι (upd H a u) := Sub.put (List.mem_of_getElem? hi) hv m
  obtain ⟨o', hS⟩ := hS
  have hl := (List.getElem?_eq_some_iff.mp hS).1
  refine ⟨⟨?_, h.nd, fun q hq => ?_, fun j c w x e1 e2 => ?_⟩, sb⟩
  · rw [h.flag]
    refine List.ext_getElem? fun j => ?_
    rw [List.getElem?_map, List.getElem?_map]
    by_cases hj : i = j
    · subst hj
      rw [List.getElem?_set_self hl, hS]; rfl
    · rw [List.getElem?_set_ne hj]
  · by_cases hq2 : q.2 = a
    · rw [hq2, upd_same]; exact fun z => by cases z
    · rw [upd_ne hq2]; exact h.live q hq
  · by_cases hj : i = j
    · subst hj
      rw [List.getElem?_set_self hl] at e1
      rw [hi] at e2
      cases e1; cases e2
      exact ho
    · rw [List.getElem?_set_ne hj] at e1
      refine OV.carry sb (upd_ne fun z => ?_) (h.cell j c w x e1 e2)
      subst z
      exact hj (nodup_at h.nd hi e2)
/-- a cell is given up -/
theorem Rl.drop (h : Rl K ι S H) {i : Nat} {b : Bool} (hS : ∃ o', S[i]? = some (b, o')) : Rl K ι (S.set i (b, .gone)) H := by
  obtain ⟨o', hS⟩ := hS
  have hl := (List.getElem?_eq_some_iff.mp hS).1
  refine ⟨?_, h.nd, h.live, fun j c w x e1 e2 => ?_⟩
  · rw [h.flag]
    refine List.ext_getElem? fun j => ?_
    rw [List.getElem?_map, List.getElem?_map]
    by_cases hj : i = j
    · subst hj
      rw [List.getElem?_set_self hl, hS]; rfl
    · rw [List.getElem?_set_ne hj]
  · by_cases hj : i = j
    · subst hj
      rw [List.getElem?_set_self hl] at e1
      cases e1
      trivial
    · rw [List.getElem?_set_ne hj] at e1
      exact h.cell j c w x e1 e2
/-- a frame's own cells at the end are let go -/
theorem XV.trim {t : Io} (ht : ∀ p ∈ t, p.1 = true) : ∀ {x : Mv} {v : V}, x.free = true → XV K (ι ++ t) H x v → XV K ι H x v
  | .d _, _, _, h => h
  | .ref i, _, _, ⟨a, h, e⟩ => by
    refine ⟨a, ?_, e⟩
    by_cases hi : i < ι.length
    · rw [List.getElem?_append_left hi] at h; exact h
    · rw [List.getElem?_append_right (by omega)] at h
      have := ht _ (List.mem_of_getElem? h)
      cases this
  | .adr _, _, _, h => h
  | .ty _, _, _, h => h
theorem Rl.trim {t : Io} {T : Sg} (h : Rl K (ι ++ t) (S ++ T) H) (hl : ι.length = S.length) (hT : ∀ p ∈ T, p.1 = true) : Rl K ι S H := by
  have hf : ι.map (·.1) = S.map (·.1) ∧ t.map (·.1) = T.map (·.1) := by
    have e := h.flag
    rw [List.map_append, List.map_append] at e
    exact List.append_inj e (by simpa using hl)
  have ht : ∀ p ∈ t, p.1 = true := fun p hp => by
    have : p.1 ∈ T.map (·.1) := by rw [← hf.2]; exact List.mem_map_of_mem hp
    obtain ⟨q, hq, e⟩ := List.mem_map.mp this
    rw [← e]; exact hT q hq
  have tr : ∀ {x : Mv} {v : V}, XC K (ι ++ t) H x v → XC K ι H x v := fun r => ⟨r.1, XV.trim ht r.1 r.2⟩
  refine ⟨hf.1, ?_, fun p hp => h.live p (List.mem_append_left _ hp), fun i b o a e1 e2 => ?_⟩
  · have := h.nd
    rw [List.map_append] at this
    exact (List.nodup_append.mp this).1
  · have i1 := (List.getElem?_eq_some_iff.mp e1).1
    have i2 := (List.getElem?_eq_some_iff.mp e2).1
    have q := h.cell i b o a (by rw [List.getElem?_append_left i1]; exact e1) (by rw [List.getElem?_append_left i2]; exact e2)
    cases o with
    | lst xs => obtain ⟨vs, e, r⟩ := q; exact ⟨vs, e, L2.Paired.mapP r fun _ _ z => tr z⟩
    | tup xs => obtain ⟨vs, e, r⟩ := q; exact ⟨vs, e, L2.Paired.mapP r fun _ _ z => tr z⟩
    | dct kvs => obtain ⟨kv, e, r⟩ := q; exact ⟨kv, e, L2.Paired.mapP r fun _ _ z => ⟨z.1, tr z.2⟩⟩
    | ins C fs => obtain ⟨dx, fv, e, r⟩ := q; exact ⟨dx, fv, e, L2.Paired.mapP r fun _ _ z => ⟨z.1, tr z.2⟩⟩
    | gone => trivial
end
end MM
end
section
set_option Elab.async false
set_option linter.all false
set_option maxRecDepth 100000
set_option maxHeartbeats 4000000
set_option autoImplicit false
namespace MM
open PySem PySem.Spec PyProof.Rows L2

/-! ### the reading of a mirror -/
section
variable {α β γ δ : Type}
def Post (R : Io → Hp → α → β → Prop) (K : PySem.W.Frag) (W : WX) (ι : Io) (σ : L2.St) (H : Hp) (Q : β → Hp → Prop) : Res α → Prop
  | .ok x S' => ∀ ι' H' v, Sub ι H ι' H' → Rl K ι' S' H' → R ι' H' x v → Q v H'
  | .exc e S' => ∀ ι' H' d, Sub ι H ι' H' → Rl K ι' S' H' → ExR K ι' H' e d → W e.cls d σ H'
  | .bad => False
def tG (R : Io → Hp → α → β → Prop) (K : PySem.W.Frag) (W : WX) (m : Rho → Sg → Res α) : L2.St → Hp → (β → Hp → Prop) → Prop :=
  fun σ H Q => ∃ ι S ρ, LR K ι H ρ σ ∧ Rl K ι S H ∧ Post R K W ι σ H Q (m ρ S)
variable {R : Io → Hp → α → β → Prop} {R' : Io → Hp → γ → δ → Prop} {K : PySem.W.Frag} {W : WX} {ι ι1 : Io} {σ : L2.St} {H H1 : Hp} {S : Sg}
theorem Post.sub {Q : β → Hp → Prop} {r : Res α} (s : Sub ι H ι1 H1) (h : Post R K W ι σ H Q r) : Post R K W ι1 σ H1 Q r := by
  cases r with
  | ok x S' => exact fun ι' H' v s' => h ι' H' v (s.trans s')
  | exc e S' => exact fun ι' H' d s' => h ι' H' d (s.trans s')
  | bad => exact h
theorem step {Q : δ → Hp → Prop} {T : β → Hp → Prop} {m : Res α} {f : α → Sg → Res γ} (hp : Post R' K W ι σ H Q (m.bind f))
    (k : ∀ x v ι1 H1 S1, Sub ι H ι1 H1 → Rl K ι1 S1 H1 → R ι1 H1 x v → Post R' K W ι1 σ H1 Q (f x S1) → T v H1) : Post R K W ι σ H T m := by
  cases m with
  | ok x S' => exact fun ι' H' v s r x' => k x v ι' H' S' s r x' (hp.sub s)
  | exc e S' => exact hp
  | bad => exact hp
theorem Post.imp {Q T : β → Hp → Prop} {r : Res α} (h : Post R K W ι σ H Q r) (k : ∀ v H, Q v H → T v H) : Post R K W ι σ H T r := by
  cases r with
  | ok x S' => exact fun ι' H' v s r q => k _ _ (h ι' H' v s r q)
  | exc e S' => exact h
  | bad => exact h
end

abbrev RB : Io → Hp → Bool → Bool → Prop := fun _ _ b c => b = c
def PM (X : Cx) (W : WX) (e : Expr) (m : ME) : Prop := PE X e (tG (XV X.K) X.K W m)
def PB (X : Cx) (W : WX) (e : Expr) (m : MT) : Prop := PT X e (tG RB X.K W m)
def PWB (X : Cx) (W : WX) (e : Expr) (m : MT) : Prop := PW X e (tG RB X.K W m)
def PL (X : Cx) (W : WX) (es : List Expr) (m : MA) : Prop := PA X es (tG (XVs X.K) X.K W m)

theorem pe_imp {X : Cx} {e : Expr} {t t' : TE} (h : PE X e t) (i : ∀ σ H Q, t' σ H Q → t σ H Q) : PE X e t' := ⟨fun pins s σ H Q I q => h.run pins s σ H Q I (i _ _ _ q)⟩
theorem pt_imp {X : Cx} {e : Expr} {t t' : TT} (h : PT X e t) (i : ∀ σ H Q, t' σ H Q → t σ H Q) : PT X e t' := ⟨fun pins s σ H Q I q => h.run pins s σ H Q I (i _ _ _ q)⟩
theorem pw_imp {X : Cx} {e : Expr} {t t' : TT} (h : PW X e t) (i : ∀ σ H Q, t' σ H Q → t σ H Q) : PW X e t' := ⟨fun whole pins s σ H Q I q => h.run whole pins s σ H Q I (i _ _ _ q)⟩
theorem pa_imp {X : Cx} {e : List Expr} {t t' : TA} (h : PA X e t) (i : ∀ σ H Q, t' σ H Q → t σ H Q) : PA X e t' := ⟨fun pos pins s σ H Q I q => h.run pos pins s σ H Q I (i _ _ _ q)⟩
theorem ps_imp {X : Cx} {e : Stmt} {t t' : TS} (h : PS X e t) (i : ∀ D σ H, t' D σ H → t D σ H) : PS X e t' := ⟨fun pins s σ H Q I q => h.run pins s σ H Q I (i _ _ _ q)⟩
theorem pss_imp {X : Cx} {e : List Stmt} {t t' : TS} (h : PSs X e t) (i : ∀ D σ H, t' D σ H → t D σ H) : PSs X e t' := ⟨fun pins s σ H Q I q => h.run pins s σ H Q I (i _ _ _ q)⟩
theorem OpR.imp {X : Cx} {f : Value → Value → Sem Value} {r r' : R2} (h : OpR X f r) (i : ∀ x y H Q, r' x y H Q → r x y H Q) : OpR X f r' := fun pins s σ H x y v u Q I rx ry q => h pins s σ H x y v u Q I rx ry (i _ _ _ _ q)

/-! ### a result that may be a new list -/
inductive Nw where
  | val (z : Mv) | lst (xs : List Mv) | tup (xs : List Mv)
inductive Bi where
  | frz | ref | own
def allD : List Mv → Option (List PyData)
  | [] => some []
  | .d x :: r => (allD r).map (x :: ·)
  | _ :: _ => none
def frees (xs : List Mv) : Bool := xs.all (·.free)
def bear (b : Bi) (n : Nw) (S : Sg) : Res Mv :=
  match n with
  | .val z => .ok z S
  | .lst xs =>
    match b with
    | .frz => match allD xs with | some ds => .ok (.d (.list ds)) S | none => .bad
    | .ref => .ok (.ref S.length) (S ++ [(false, .lst xs)])
    | .own => .ok (.own S.length) (S ++ [(true, .lst xs)])
  | .tup xs => match allD xs with | some ds => .ok (.d (.tuple ds)) S | none => .ok (.ref S.length) (S ++ [(false, .tup xs)])
def Raw (K : PySem.W.Frag) (ι : Io) (H : Hp) (Q : VK) : Nw → Prop
  | .val z => ∀ w, XV K ι H z w → Q w H
  | .lst xs => ∀ vs p, XCs K ι H xs vs → H p = none → Q (.ref p) (upd H p (.lst vs))
  | .tup xs => ∀ vs p, XCs K ι H xs vs → H p = none → Q (.ref p) (upd H p (.tup vs))
def Qf (b : Bi) (Q : VK) : VK := fun v H => match b with
  | .frz => Q v H ∨ ∃ a u, v = .ref a ∧ H a = some u ∧ Mut (some u) ∧ ∀ o, Q v (upd H a (.frz o u))
  | _ => Q v H
theorem pe_b {X : Cx} {e : Expr} {t : TE} (b : Bi) (h : PE X e t) : PE X e (fun σ H Q => t σ H (Qf b Q)) := by
  cases b with
  | frz =>
    refine ⟨fun pins s σ H Q I q => thn (h.run pins s σ H _ I q) fun v s1 ⟨x, H1, I1, r, q⟩ => ?_⟩
    rcases q with q | ⟨a, u, rfl, ha, mu, q⟩
    · exact ⟨x, H1, I1, r, q⟩
    · obtain ⟨od, I2⟩ := I1.lock ha mu
      exact ⟨_, _, I2, r, q od⟩
  | ref => exact h
  | own => exact h
section
variable {K : PySem.W.Frag} {ι : Io} {H : Hp} {S : Sg}
theorem allD_FDs {xs : List Mv} {ds : List PyData} {vs : List V} (h : XCs K ι H xs vs) (e : allD xs = some ds) : FDs K H ds vs := by
  induction h generalizing ds with
  | nil => cases e; exact .nil
  | @cons x v xs vs r t ih =>
    cases x with
    | d y =>
      simp only [allD, Option.map_eq_some_iff] at e
      obtain ⟨r', e1, rfl⟩ := e
      exact .cons r.2 (ih e1)
    | ref i => cases e
    | _ => cases e
/-- something fresh beside the store is taken into it -/
theorem Rl.adopt (h : Rl K ι S H) {p : Addr} {b : Bool} {o : Mo} (hp : H p ≠ none) (hq : ∀ q ∈ ι, q.2 ≠ p) (hu : OV K (ι ++ [(b, p)]) H p o) : Rl K (ι ++ [(b, p)]) (S ++ [(b, o)]) H := by
  refine ⟨by simp [h.flag], ?_, fun q hq2 => ?_, fun i c w a e1 e2 => ?_⟩
  · rw [List.map_append]
    refine List.nodup_append.mpr ⟨h.nd, by simp, fun x hx y hy e => ?_⟩
    have hy' : y = p := by simpa using hy
    obtain ⟨q, hq2, rfl⟩ := List.mem_map.mp hx
    exact hq q hq2 (e.trans hy')
  · rcases List.mem_append.mp hq2 with hq2 | hq2
    · exact h.live q hq2
    · have : q = (b, p) := by simpa using hq2
      rw [this]; exact hp
  · by_cases hi : i < S.length
    · rw [List.getElem?_append_left hi] at e1
      rw [List.getElem?_append_left (by rw [h.len]; exact hi)] at e2
      exact OV.grown ⟨_, rfl⟩ (Grow.refl H) rfl (h.cell i c w a e1 e2)
    · have hlt := (List.getElem?_eq_some_iff.mp e1).1
      have hl : (S ++ [(b, o)]).length = S.length + 1 := by simp
      have ei : i = S.length := by omega
      subst ei
      rw [List.getElem?_append_right (Nat.le_refl _)] at e1
      rw [List.getElem?_append_right (by rw [h.len]; exact Nat.le_refl _), h.len] at e2
      simp at e1 e2
      obtain ⟨rfl, rfl⟩ := e1
      obtain ⟨_, rfl⟩ := e2
      exact hu
theorem last_at {ι : Io} {x : Bool × Addr} {n : Nat} (h : ι.length = n) : (ι ++ [x])[n]? = some x := by
  subst h
  rw [List.getElem?_append_right (Nat.le_refl _), Nat.sub_self]; rfl
/-- what bear tells of a list that lies beside the store; ahead (ι0, H0) it was not there -/
theorem bear_lst {W : WX} {σ : L2.St} {Q : VK} {b : Bi} {xs : List Mv} {vs : List V} {p : Addr} {ι0 : Io} {H0 : Hp} (s0 : Sub ι0 H0 ι H) (h0 : H0 p = none) (hr : Rl K ι S H) (hp : H p = some (.lst vs)) (hq : ∀ q ∈ ι, q.2 ≠ p) (hx : XCs K ι H xs vs)
    (h : Post (XV K) K W ι0 σ H0 Q (bear b (.lst xs) S)) : Qf b Q (.ref p) H := by
  cases b with
  | frz =>
    refine .inr ⟨p, _, rfl, hp, trivial, fun o => ?_⟩
    simp only [bear] at h
    cases e : allD xs with
    | none => rw [e] at h; exact h.elim
    | some ds =>
      rw [e] at h
      have r1 := hr.aside (u := .frz o (.lst vs)) hp trivial hq
      exact h _ _ _ (s0.again h0 hp) r1 (.lst (.inl ⟨o, upd_same⟩) (FDs.mono (Grow.write hp trivial) (allD_FDs hx e)))
  | ref =>
    have r1 := hr.adopt (b := false) (o := .lst xs) (by rw [hp]; exact fun z => nomatch z) hq ⟨vs, hp, XCs.grown ⟨_, rfl⟩ (Grow.refl H) hx⟩
    exact h _ _ _ (s0.cell h0) r1 ⟨p, last_at hr.len, rfl⟩
  | own =>
    have r1 := hr.adopt (b := true) (o := .lst xs) (by rw [hp]; exact fun z => nomatch z) hq ⟨vs, hp, XCs.grown ⟨_, rfl⟩ (Grow.refl H) hx⟩
    exact h _ _ _ (s0.cell h0) r1 ⟨p, last_at hr.len, rfl⟩
theorem bear_raw {W : WX} {σ : L2.St} {Q : VK} {b : Bi} {n : Nw} (hr : Rl K ι S H) (h : Post (XV K) K W ι σ H Q (bear b n S)) : Raw K ι H (Qf b Q) n := by
  cases n with
  | val z =>
    intro w hz
    have q : Q w H := h _ _ _ (Sub.refl _ _) hr hz
    cases b with
    | frz => exact .inl q
    | ref => exact q
    | own => exact q
  | lst xs =>
    intro vs p hx hp
    obtain ⟨r1, s1⟩ := hr.beside (u := .lst vs) hp
    exact bear_lst s1 hp r1 upd_same (fun q hq z => hr.live q hq (by rw [z]; exact hp)) (XCs.mono s1 hx) h
  | tup xs =>
    intro vs p hx hp
    have q : Q (.ref p) (upd H p (.tup vs)) := by
      simp only [bear] at h
      cases e : allD xs with
      | none =>
        rw [e] at h
        obtain ⟨r1, s1⟩ := hr.push (u := .tup vs) (b := false) (o := .tup xs) hp ⟨vs, upd_same, XCs.grown ⟨_, rfl⟩ (Grow.new hp) hx⟩
        exact h _ _ _ s1 r1 ⟨p, last_at hr.len, rfl⟩
      | some ds =>
        rw [e] at h
        obtain ⟨r1, s1⟩ := hr.beside (u := .tup vs) hp
        exact h _ _ _ s1 r1 (.tup (.inl (.inl upd_same)) (FDs.mono s1.grow (allD_FDs hx e)))
    cases b with
    | frz => exact .inl q
    | ref => exact q
    | own => exact q
end

/-! ### names and constants -/
def mVar (i : Nat) : ME := fun ρ S => match ρ[i]? with | some (some x) => .ok x S | _ => .bad
def mC (d : PyData) : ME := fun _ S => .ok (.d d) S
def mK (x : Mv) : ME := fun _ S => .ok x S
section
variable {X : Cx} {W : WX}
theorem pm_var (i : Nat) {x : Str} {pos : Pos} (hN : X.N[i]? = some x := by rfl) (hv : Vis X.env.scope x := by first | exact Or.inl rfl | exact Or.inr (Or.inl rfl) | exact Or.inr (Or.inr rfl)) (hd : (x == ("__debug__" : Str)) = false := by decide)
    (hcd : (x == ("__classdict__" : Str)) = false := by decide) : PM X W (.Name x pos) (mVar i) := by
  refine pe_imp (pe_var hN hv hd hcd) fun σ H Q ⟨ι, S, ρ, hl, hr, h⟩ => ?_
  unfold mVar at h
  cases e : ρ[i]? with
  | none => rw [e] at h; exact h.elim
  | some y =>
    cases y with
    | none => rw [e] at h; exact h.elim
    | some y =>
      rw [e] at h
      obtain ⟨v, e1, r⟩ := hl.2 i y e
      exact ⟨v, e1, h _ _ _ (Sub.refl _ _) hr r⟩
theorem pm_c {e : Expr} {v : V} {d : PyData} (h : PE X e (tC v)) (hd : ∀ H, FD X.K H d v) : PM X W e (mC d) :=
  pe_imp h fun σ H Q ⟨ι, S, ρ, hl, hr, h⟩ => h _ _ _ (Sub.refl _ _) hr (hd H)
theorem pm_int {i : Int} {j : Nat} {pos : Pos} : PM X W (.Constant (.int i) j pos) (mC (.int i)) := pm_c pe_int fun _ => .int i
theorem pm_bl {b : Bool} {j : Nat} {pos : Pos} : PM X W (.Constant (.bool b) j pos) (mC (.bool b)) := pm_c pe_bl fun _ => .bl b
theorem pm_non {j : Nat} {pos : Pos} : PM X W (.Constant .none j pos) (mC .none) := pm_c pe_non fun _ => .non
theorem pm_str {x : Str} {j : Nat} {pos : Pos} : PM X W (.Constant (.str x) j pos) (mC (.str x)) := pm_c pe_str fun _ => .str x
theorem pm_globI {x : Str} {i : Int} {t : Tok} {pos : Pos} (hg : Gl X x) (hm : X.mg x = some (.int i t)) (hd : (x == ("__debug__" : Str)) = false := by decide) : PM X W (.Name x pos) (mC (.int i)) :=
  pm_c (v := .int i) (pe_glob hg hm ⟨t, rfl⟩ hd) fun _ => .int i
theorem pm_globS {x : Str} {i : Str} {t : Tok} {pos : Pos} (hg : Gl X x) (hm : X.mg x = some (.str i t)) (hd : (x == ("__debug__" : Str)) = false := by decide) : PM X W (.Name x pos) (mC (.str i)) :=
  pm_c (v := .str i) (pe_glob hg hm ⟨t, rfl⟩ hd) fun _ => .str i

/-! ### operators -/
def opt {α : Type} (o : Option α) (f : α → Res Mv) : Res Mv := match o with | some z => f z | none => .bad
def mBin (b : Bi) (g : Sg → Mv → Mv → Option Nw) (ma mb : ME) : ME := fun ρ S => (ma ρ S).bind fun x S1 => (mb ρ S1).bind fun y S2 => opt (g S2 x y) fun z => bear b z S2
/-- an operator by values -/
def OpP (X : Cx) (f : Value → Value → Sem Value) (g : Sg → Mv → Mv → Option Nw) : Prop :=
  OpR X f fun v u H Q => ∃ ι S x y z, Rl X.K ι S H ∧ XV X.K ι H x v ∧ XV X.K ι H y u ∧ g S x y = some z ∧ Raw X.K ι H Q z
theorem bin_core {g : Sg → Mv → Mv → Option Nw} {ma mb : ME} {b : Bi} {σ : L2.St} {H : Hp} {Q : VK} (h : tG (XV X.K) X.K W (mBin b g ma mb) σ H Q) :
    tOp (fun v u H Q => ∃ ι S x y z, Rl X.K ι S H ∧ XV X.K ι H x v ∧ XV X.K ι H y u ∧ g S x y = some z ∧ Raw X.K ι H Q z) (tG (XV X.K) X.K W ma) (tG (XV X.K) X.K W mb) σ H (Qf b Q) := by
  obtain ⟨ι, S, ρ, hl, hr, h⟩ := h
  refine ⟨ι, S, ρ, hl, hr, step h fun x v ι1 H1 S1 s1 r1 hx h1 => ?_⟩
  refine ⟨ι1, S1, ρ, hl.mono s1, r1, step h1 fun y u ι2 H2 S2 s2 r2 hy h2 => ?_⟩
  unfold opt at h2
  cases e : g S2 x y with
  | none => rw [e] at h2; exact h2.elim
  | some z =>
    rw [e] at h2
    exact ⟨ι2, S2, x, y, z, r2, hx.mono s2, hy, e, bear_raw r2 h2⟩
theorem pm_bin {op : Operator} {a c : Expr} {g : Sg → Mv → Mv → Option Nw} {ma mc : ME} {pos : Pos} (b : Bi) (o : OpP X (binaryOp op) g) (ha : PM X W a ma) (hc : PM X W c mc) : PM X W (.BinOp a op c pos) (mBin b g ma mc) :=
  pe_imp (pe_b b (pe_op o ha hc)) fun σ H Q h => bin_core h
theorem pm_cmp {op : CmpOp} {a c : Expr} {g : Sg → Mv → Mv → Option Nw} {ma mc : ME} {pos : Pos} (o : OpP X (compareOp op) g) (hm : behindInMarks op c = false) (ha : PM X W a ma) (hc : PM X W c mc) : PM X W (.Compare a [op] [c] pos) (mBin .ref g ma mc) :=
  pe_imp (pe_b .ref (pe_cmpR o ha hc hm)) fun σ H Q h => bin_core h
/-- a value's truth as a result -/
def mTst (m : ME) : MT := fun ρ S => (m ρ S).bind fun x S1 => match x with | .d (.bool b) => .ok b S1 | _ => .bad
theorem pb_cmp {op : CmpOp} {a c : Expr} {g : Sg → Mv → Mv → Option Nw} {ma mc : ME} {pos : Pos} (o : OpP X (compareOp op) g) (hm : behindInMarks op c = false) (ha : PM X W a ma) (hc : PM X W c mc) : PB X W (.Compare a [op] [c] pos) (mTst (mBin .ref g ma mc)) := by
  refine pt_imp (pt_cmpR o ha hc hm) fun σ H Q ⟨ι, S, ρ, hl, hr, h⟩ => ?_
  refine bin_core (b := .ref) (Q := fun x H' => ∃ k, x = .bl k ∧ Q k H') ⟨ι, S, ρ, hl, hr, step h fun x v ι1 H1 S1 s1 r1 hx h1 => ?_⟩
  cases x with
  | d y =>
    cases y with
    | bool k => cases hx; exact ⟨k, rfl, h1 _ _ _ (Sub.refl _ _) r1 rfl⟩
    | _ => exact h1.elim
  | _ => exact h1.elim

/-! ### truth -/
def Mv.seq (S : Sg) : Mv → Option (Bool × List Mv)
  | .d (.list xs) => some (false, xs.map .d)
  | .d (.tuple xs) => some (true, xs.map .d)
  | .ref i => match S[i]? with | some (false, .lst xs) => some (false, xs) | some (false, .tup xs) => some (true, xs) | _ => none
  | .own i => match S[i]? with | some (true, .lst xs) => some (false, xs) | some (true, .tup xs) => some (true, xs) | _ => none
  | _ => none
theorem FDs.xcs {K : PySem.W.Frag} {ι : Io} {H : Hp} : ∀ {ds : List PyData} {vs : List V}, FDs K H ds vs → XCs K ι H (ds.map .d) vs
  | _, _, .nil => .nil
  | _, _, .cons h hs => .cons ⟨rfl, h⟩ (FDs.xcs hs)
theorem Mv.seq_ok {K : PySem.W.Frag} {ι : Io} {S : Sg} {H : Hp} (hr : Rl K ι S H) {x : Mv} {v : V} (hx : XV K ι H x v) {t : Bool} {xs : List Mv} (e : x.seq S = some (t, xs)) :
    ∃ a vs, v = .ref a ∧ (if t = true then SqT K H a vs else PlnL K H a vs) ∧ XCs K ι H xs vs := by
  have cellc : ∀ (b : Bool) (i : Nat) (a : Addr), ι[i]? = some (b, a) → (match S[i]? with | some (c, .lst xs) => if c = b then some (false, xs) else none | some (c, .tup xs) => if c = b then some (true, xs) else none | _ => none) = some (t, xs) →
      ∃ vs, (if t = true then SqT K H a vs else PlnL K H a vs) ∧ XCs K ι H xs vs := by
    intro b i a hi e
    cases q : S[i]? with
    | none => rw [q] at e; cases e
    | some p =>
      obtain ⟨c, o⟩ := p
      rw [q] at e
      cases o with
      | lst ys =>
        by_cases hc : c = b
        · subst hc
          simp at e
          obtain ⟨rfl, rfl⟩ := e
          obtain ⟨vs, h1, h2⟩ := hr.cell i c _ a q hi
          exact ⟨vs, .inl h1, h2⟩
        · simp [hc] at e
      | tup ys =>
        by_cases hc : c = b
        · subst hc
          simp at e
          obtain ⟨rfl, rfl⟩ := e
          obtain ⟨vs, h1, h2⟩ := hr.cell i c _ a q hi
          exact ⟨vs, .inl (.inl h1), h2⟩
        · simp [hc] at e
      | dct _ => cases e
      | ins _ _ => cases e
      | gone => cases e
  cases x with
  | d y =>
    cases y with
    | list ds =>
      cases hx with
      | lst h hs =>
        cases e
        exact ⟨_, _, rfl, .inr h, FDs.xcs hs⟩
    | tuple ds =>
      cases hx with
      | tup h hs =>
        cases e
        exact ⟨_, _, rfl, h, FDs.xcs hs⟩
    | _ => cases e
  | ref i =>
    obtain ⟨a, hi, rfl⟩ := hx
    obtain ⟨vs, h1, h2⟩ := cellc false i a hi (by
      simp only [Mv.seq] at e
      rw [← e]
      cases S[i]? with
      | none => rfl
      | some p => obtain ⟨c, o⟩ := p; cases o <;> cases c <;> rfl)
    exact ⟨a, vs, rfl, h1, h2⟩
  | own i =>
    obtain ⟨a, hi, rfl⟩ := hx
    obtain ⟨vs, h1, h2⟩ := cellc true i a hi (by
      simp only [Mv.seq] at e
      rw [← e]
      cases S[i]? with
      | none => rfl
      | some p => obtain ⟨c, o⟩ := p; cases o <;> cases c <;> rfl)
    exact ⟨a, vs, rfl, h1, h2⟩
  | _ => cases e
def Mv.truth (S : Sg) (x : Mv) : Option Bool :=
  match x with
  | .d .none => some false
  | .d (.bool b) => some b
  | .d (.int i) => some (i != 0)
  | .d (.str y) => if y.length ≤ sizeLine then some ((y.length : Int) != 0) else none
  | .d (.list xs) => some (!xs.isEmpty)
  | .d (.tuple xs) => some (!xs.isEmpty)
  | x => (x.seq S).map fun q => !q.2.isEmpty
theorem Paired.isEmpty {α β : Type} {F : α → β → Prop} {xs : List α} {ys : List β} (h : Paired F xs ys) : xs.isEmpty = ys.isEmpty := by
  cases h <;> rfl
theorem Mv.truth_ok {K : PySem.W.Frag} {ι : Io} {S : Sg} {H : Hp} (hr : Rl K ι S H) {x : Mv} {v : V} (hx : XV K ι H x v) {k : Bool} (e : x.truth S = some k) : TruV K v H k := by
  have sq : ∀ t xs, x.seq S = some (t, xs) → k = !xs.isEmpty → TruV K v H k := by
    intro t xs e1 e2
    obtain ⟨a, vs, rfl, h1, h2⟩ := Mv.seq_ok hr hx e1
    cases t with
    | true => exact .inr (.inl ⟨vs, h1, by rw [e2, Paired.isEmpty h2]⟩)
    | false => exact .inl ⟨vs, PlnL.sq h1, by rw [e2, Paired.isEmpty h2]⟩
  cases x with
  | d y =>
    cases y with
    | none => cases hx; cases e; rfl
    | bool b => cases hx; cases e; rfl
    | int i => cases hx; cases e; rfl
    | str z =>
      cases hx
      simp only [Mv.truth] at e
      by_cases hz : z.length ≤ sizeLine
      · rw [if_pos hz] at e; cases e; exact ⟨hz, rfl⟩
      · rw [if_neg hz] at e; cases e
    | list xs => exact sq _ _ rfl (by simp only [Mv.truth] at e; cases e; cases xs <;> rfl)
    | tuple xs => exact sq _ _ rfl (by simp only [Mv.truth] at e; cases e; cases xs <;> rfl)
    | dict _ => cases e
  | ref i =>
    simp only [Mv.truth, Option.map_eq_some_iff] at e
    obtain ⟨⟨t, xs⟩, e1, e2⟩ := e
    exact sq t xs e1 e2.symm
  | own i =>
    simp only [Mv.truth, Option.map_eq_some_iff] at e
    obtain ⟨⟨t, xs⟩, e1, e2⟩ := e
    exact sq t xs e1 e2.symm
  | _ => cases e
def mTruth (m : ME) : MT := fun ρ S => (m ρ S).bind fun x S1 => match x.truth S1 with | some k => .ok k S1 | none => .bad
theorem pb_of {e : Expr} {m : ME} (h : PM X W e m) (he : ∀ whole, isTrue e X.env whole = (do let v ← whole; standAt e.pos; holding [v] (truthy v)) := by intro _; rfl) : PB X W e (mTruth m) := by
  refine pt_imp (pt_truth h he) fun σ H Q ⟨ι, S, ρ, hl, hr, h⟩ => ?_
  refine ⟨ι, S, ρ, hl, hr, step h fun x v ι1 H1 S1 s1 r1 hx h1 => ?_⟩
  cases e : x.truth S1 with
  | none => simp only [e] at h1; exact h1.elim
  | some k =>
    simp only [e] at h1
    exact ⟨k, Mv.truth_ok r1 hx e, h1 _ _ _ (Sub.refl _ _) r1 rfl⟩
def mAndB (a b : MT) : MT := fun ρ S => (a ρ S).bind fun k S1 => if k = true then b ρ S1 else .ok false S1
def mOrB (a b : MT) : MT := fun ρ S => (a ρ S).bind fun k S1 => if k = true then .ok true S1 else b ρ S1
def mNotB (a : MT) : MT := fun ρ S => (a ρ S).bind fun k S1 => .ok (!k) S1
theorem pwb {e : Expr} {m : MT} (h : PWB X W e m) : PB X W e m := PW.pt h
theorem pw_andM {a b : Expr} {rest : List Expr} {ma mb : MT} {pos : Pos} (ha : PB X W a ma) (hb : PWB X W (.BoolOp .And (b :: rest) pos) mb) : PWB X W (.BoolOp .And (a :: b :: rest) pos) (mAndB ma mb) := by
  refine pw_imp (pw_and ha hb) fun σ H Q ⟨ι, S, ρ, hl, hr, h⟩ => ?_
  refine ⟨ι, S, ρ, hl, hr, step h fun x v ι1 H1 S1 s1 r1 hx h1 => ?_⟩
  cases hx
  cases x with
  | true => exact iteT ⟨ι1, S1, ρ, hl.mono s1, r1, by simpa using h1⟩
  | false => exact iteF ((show Post RB _ _ _ _ _ _ (.ok false S1) from by simpa using h1) _ _ _ (Sub.refl _ _) r1 rfl)
theorem pw_orM {a b : Expr} {rest : List Expr} {ma mb : MT} {pos : Pos} (ha : PB X W a ma) (hb : PWB X W (.BoolOp .Or (b :: rest) pos) mb) : PWB X W (.BoolOp .Or (a :: b :: rest) pos) (mOrB ma mb) := by
  refine pw_imp (pw_or ha hb) fun σ H Q ⟨ι, S, ρ, hl, hr, h⟩ => ?_
  refine ⟨ι, S, ρ, hl, hr, step h fun x v ι1 H1 S1 s1 r1 hx h1 => ?_⟩
  cases hx
  cases x with
  | true => exact iteT ((show Post RB _ _ _ _ _ _ (.ok true S1) from by simpa using h1) _ _ _ (Sub.refl _ _) r1 rfl)
  | false => exact iteF ⟨ι1, S1, ρ, hl.mono s1, r1, by simpa using h1⟩
theorem pw_andM1 {a : Expr} {ma : MT} {pos : Pos} (ha : PB X W a ma) : PWB X W (.BoolOp .And [a] pos) ma := pw_and1 ha
theorem pw_orM1 {a : Expr} {ma : MT} {pos : Pos} (ha : PB X W a ma) : PWB X W (.BoolOp .Or [a] pos) ma := pw_or1 ha
theorem pb_not {a : Expr} {ma : MT} {pos : Pos} (ha : PB X W a ma) : PB X W (.UnaryOp .Not a pos) (mNotB ma) := by
  refine pt_imp (pt_not ha) fun σ H Q ⟨ι, S, ρ, hl, hr, h⟩ => ?_
  refine ⟨ι, S, ρ, hl, hr, step h fun x v ι1 H1 S1 s1 r1 hx h1 => ?_⟩
  cases hx
  exact h1 _ _ _ (Sub.refl _ _) r1 rfl
/-- and, or, not as values -/
def mAnd (a b : ME) : ME := fun ρ S => (a ρ S).bind fun x S1 => match x.truth S1 with | some true => b ρ S1 | some false => .ok x S1 | none => .bad
def mOr (a b : ME) : ME := fun ρ S => (a ρ S).bind fun x S1 => match x.truth S1 with | some false => b ρ S1 | some true => .ok x S1 | none => .bad
def mNot (a : ME) : ME := fun ρ S => (a ρ S).bind fun x S1 => match x.truth S1 with | some k => .ok (.d (.bool (!k))) S1 | none => .bad
theorem pm_and {a b : Expr} {rest : List Expr} {ma mb : ME} {pos : Pos} (ha : PM X W a ma) (hb : PM X W (.BoolOp .And (b :: rest) pos) mb) : PM X W (.BoolOp .And (a :: b :: rest) pos) (mAnd ma mb) := by
  refine pe_imp (pe_andT ha hb) fun σ H Q ⟨ι, S, ρ, hl, hr, h⟩ => ?_
  refine ⟨ι, S, ρ, hl, hr, step h fun x v ι1 H1 S1 s1 r1 hx h1 => ?_⟩
  cases e : x.truth S1 with
  | none => simp only [e] at h1; exact h1.elim
  | some k =>
    simp only [e] at h1
    refine ⟨k, Mv.truth_ok r1 hx e, ?_⟩
    cases k with
    | true => exact iteT ⟨ι1, S1, ρ, hl.mono s1, r1, h1⟩
    | false => exact iteF (h1 _ _ _ (Sub.refl _ _) r1 hx)
theorem pm_or {a b : Expr} {rest : List Expr} {ma mb : ME} {pos : Pos} (ha : PM X W a ma) (hb : PM X W (.BoolOp .Or (b :: rest) pos) mb) : PM X W (.BoolOp .Or (a :: b :: rest) pos) (mOr ma mb) := by
  refine pe_imp (pe_orT ha hb) fun σ H Q ⟨ι, S, ρ, hl, hr, h⟩ => ?_
  refine ⟨ι, S, ρ, hl, hr, step h fun x v ι1 H1 S1 s1 r1 hx h1 => ?_⟩
  cases e : x.truth S1 with
  | none => simp only [e] at h1; exact h1.elim
  | some k =>
    simp only [e] at h1
    refine ⟨k, Mv.truth_ok r1 hx e, ?_⟩
    cases k with
    | true => exact iteT (h1 _ _ _ (Sub.refl _ _) r1 hx)
    | false => exact iteF ⟨ι1, S1, ρ, hl.mono s1, r1, h1⟩
theorem pm_one {op : BoolOp} {a : Expr} {ma : ME} {pos : Pos} (ha : PM X W a ma) : PM X W (.BoolOp op [a] pos) ma := pe_one ha
theorem pm_not {a : Expr} {ma : ME} {pos : Pos} (ha : PM X W a ma) : PM X W (.UnaryOp .Not a pos) (mNot ma) := by
  refine pe_imp (pe_notT ha) fun σ H Q ⟨ι, S, ρ, hl, hr, h⟩ => ?_
  refine ⟨ι, S, ρ, hl, hr, step h fun x v ι1 H1 S1 s1 r1 hx h1 => ?_⟩
  cases e : x.truth S1 with
  | none => simp only [e] at h1; exact h1.elim
  | some k =>
    simp only [e] at h1
    exact ⟨k, Mv.truth_ok r1 hx e, h1 _ _ _ (Sub.refl _ _) r1 (.bl _)⟩
def mIf (c : MT) (a b : ME) : ME := fun ρ S => (c ρ S).bind fun k S1 => if k = true then a ρ S1 else b ρ S1
theorem pm_if {c a b : Expr} {mc : MT} {ma mb : ME} {pos : Pos} (hc : PB X W c mc) (ha : PM X W a ma) (hb : PM X W b mb) : PM X W (.IfExp c a b pos) (mIf mc ma mb) := by
  refine pe_imp (pe_ifExp hc ha hb) fun σ H Q ⟨ι, S, ρ, hl, hr, h⟩ => ?_
  refine ⟨ι, S, ρ, hl, hr, step h fun x v ι1 H1 S1 s1 r1 hx h1 => ?_⟩
  cases hx
  cases x with
  | true => exact iteT ⟨ι1, S1, ρ, hl.mono s1, r1, by simpa using h1⟩
  | false => exact iteF ⟨ι1, S1, ρ, hl.mono s1, r1, by simpa using h1⟩

/-! ### argument lists, displays -/
def mNil : MA := fun _ S => .ok [] S
def mCons (a : ME) (r : MA) : MA := fun ρ S => (a ρ S).bind fun x S1 => (r ρ S1).bind fun xs S2 => .ok (x :: xs) S2
theorem pl_nil : PL X W [] mNil := pa_imp pa_nil fun σ H Q ⟨ι, S, ρ, hl, hr, h⟩ => h _ _ _ (Sub.refl _ _) hr .nil
theorem pl_cons {e : Expr} {es : List Expr} {m : ME} {ms : MA} (h : PM X W e m) (hs : PL X W es ms) (he : starEach (e :: es) X.env = (false, eval e X.env) :: starEach es X.env := by rfl) : PL X W (e :: es) (mCons m ms) := by
  refine pa_imp (pa_cons h hs he) fun σ H Q ⟨ι, S, ρ, hl, hr, h⟩ => ?_
  refine ⟨ι, S, ρ, hl, hr, step h fun x v ι1 H1 S1 s1 r1 hx h1 => ?_⟩
  refine ⟨ι1, S1, ρ, hl.mono s1, r1, step h1 fun y u ι2 H2 S2 s2 r2 hy h2 => ?_⟩
  exact h2 _ _ _ (Sub.refl _ _) r2 (.cons (hx.mono s2) hy)
theorem Paired_frees {K : PySem.W.Frag} {ι : Io} {H : Hp} {xs : List Mv} {vs : List V} (h : XVs K ι H xs vs) (e : frees xs = true) : XCs K ι H xs vs := by
  induction h with
  | nil => exact .nil
  | cons r t ih =>
    simp only [frees, List.all_cons, Bool.and_eq_true] at e
    exact .cons ⟨e.1, r⟩ (ih e.2)
def mDisp (b : Bi) (tup : Bool) (a : MA) : ME := fun ρ S => (a ρ S).bind fun xs S1 => if frees xs = true ∧ xs.length ≤ sizeLine then bear b (if tup = true then .tup xs else .lst xs) S1 else .bad
theorem pm_lst {es : List Expr} {ms : MA} {pos : Pos} (b : Bi) (h : PL X W es ms) : PM X W (.List es pos) (mDisp b false ms) := by
  refine pe_imp (pe_b b (pe_lst h)) fun σ H Q ⟨ι, S, ρ, hl, hr, h⟩ => ?_
  refine ⟨ι, S, ρ, hl, hr, step h fun x v ι1 H1 S1 s1 r1 hx h1 => ?_⟩
  by_cases hc : frees x = true ∧ x.length ≤ sizeLine
  · rw [if_pos hc] at h1
    exact ⟨by rw [← hx.length]; exact hc.2, fun p hp => bear_raw (n := .lst x) r1 h1 v p (Paired_frees hx hc.1) hp⟩
  · rw [if_neg hc] at h1; exact h1.elim
theorem pm_tup {es : List Expr} {x1 : Nat} {ms : MA} {pos : Pos} (h : PL X W es ms) : PM X W (.Tuple es x1 pos) (mDisp .ref true ms) := by
  refine pe_imp (pe_b .ref (pe_tup h)) fun σ H Q ⟨ι, S, ρ, hl, hr, h⟩ => ?_
  refine ⟨ι, S, ρ, hl, hr, step h fun x v ι1 H1 S1 s1 r1 hx h1 => ?_⟩
  by_cases hc : frees x = true ∧ x.length ≤ sizeLine
  · rw [if_pos hc] at h1
    exact ⟨by rw [← hx.length]; exact hc.2, fun p hp => bear_raw (n := .tup x) r1 h1 v p (Paired_frees hx hc.1) hp⟩
  · rw [if_neg hc] at h1; exact h1.elim
end
end MM
end
section
set_option Elab.async false
set_option linter.all false
set_option maxRecDepth 100000
set_option maxHeartbeats 4000000
set_option autoImplicit false
namespace MM
open PySem PySem.Spec PyProof.Rows L2

/-! ### statements -/
def PostS (K : PySem.W.Frag) (W : WX) (ι : Io) (H : Hp) (D : Ends) : RS → Prop
  | .nx ρ S => ∀ ι' H' σ', Sub ι H ι' H' → Rl K ι' S H' → LR K ι' H' ρ σ' → D.nx σ' H'
  | .rt x S => ∀ ι' H' v, Sub ι H ι' H' → Rl K ι' S H' → XV K ι' H' x v → D.rt v H'
  | .bk ρ S => ∀ ι' H' σ', Sub ι H ι' H' → Rl K ι' S H' → LR K ι' H' ρ σ' → D.bk σ' H'
  | .ct ρ S => ∀ ι' H' σ', Sub ι H ι' H' → Rl K ι' S H' → LR K ι' H' ρ σ' → D.ct σ' H'
  | .exc e ρ S => ∀ ι' H' d σ', Sub ι H ι' H' → Rl K ι' S H' → LR K ι' H' ρ σ' → ExR K ι' H' e d → W e.cls d σ' H'
  | .bad => False
def tS (K : PySem.W.Frag) (W : WX) (m : MS) : TS := fun D σ H => ∃ ι S ρ, LR K ι H ρ σ ∧ Rl K ι S H ∧ PostS K W ι H D (m ρ S)
def PMS (X : Cx) (W : WX) (st : Stmt) (m : MS) : Prop := PS X st (tS X.K W m)
def PMB (X : Cx) (W : WX) (st : List Stmt) (m : MS) : Prop := PSs X st (tS X.K W m)
def Res.go {α : Type} (r : Res α) (ρ : Rho) (f : α → Sg → RS) : RS := match r with | .ok x S => f x S | .exc e S => .exc e ρ S | .bad => .bad
section
variable {K : PySem.W.Frag} {W : WX} {ι ι1 : Io} {H H1 : Hp} {S : Sg} {ρ : Rho} {σ : L2.St} {D D' : Ends}
theorem PostS.sub {r : RS} (s : Sub ι H ι1 H1) (h : PostS K W ι H D r) : PostS K W ι1 H1 D r := by
  cases r with
  | nx ρ S => exact fun ι' H' v s' => h ι' H' v (s.trans s')
  | rt x S => exact fun ι' H' v s' => h ι' H' v (s.trans s')
  | bk ρ S => exact fun ι' H' v s' => h ι' H' v (s.trans s')
  | ct ρ S => exact fun ι' H' v s' => h ι' H' v (s.trans s')
  | exc e ρ S => exact fun ι' H' d v s' => h ι' H' d v (s.trans s')
  | bad => exact h
theorem stepS {α β : Type} {R : Io → Hp → α → β → Prop} {T : β → Hp → Prop} {r : Res α} {f : α → Sg → RS} (hp : PostS K W ι H D (r.go ρ f)) (hl : LR K ι H ρ σ)
    (k : ∀ x v ι1 H1 S1, Sub ι H ι1 H1 → Rl K ι1 S1 H1 → R ι1 H1 x v → PostS K W ι1 H1 D (f x S1) → T v H1) : Post R K W ι σ H T r := by
  cases r with
  | ok x S' => exact fun ι' H' v s r x' => k x v ι' H' S' s r x' (PostS.sub s hp)
  | exc e S' => exact fun ι' H' d s r x => hp ι' H' d σ s r (hl.mono s) x
  | bad => exact hp
end
/-- targets: names, tuples of them -/
abbrev MG := Sg → Mv → Rho → Option Rho
abbrev MGs := Sg → List Mv → Rho → Option Rho
def Off (ts : List Nat) (σ σ' : L2.St) : Prop := σ'.length = σ.length ∧ ∀ j, j ∉ ts → σ'[j]? = σ[j]?
theorem Off.refl (ts : List Nat) (σ : L2.St) : Off ts σ σ := ⟨rfl, fun _ _ => rfl⟩
def PMG (X : Cx) (ts : List Nat) (tg : Expr) (m : MG) : Prop := PG X tg fun v σ H Q => ∃ ι S ρ x ρ', LR X.K ι H ρ σ ∧ Rl X.K ι S H ∧ XV X.K ι H x v ∧ m S x ρ = some ρ' ∧ ∀ σ', LR X.K ι H ρ' σ' → Off ts σ σ' → Q σ' H
def PMGs (X : Cx) (ts : List Nat) (tg : List Expr) (m : MGs) : Prop := PGs X tg fun vs σ H Q => ∃ ι S ρ xs ρ', LR X.K ι H ρ σ ∧ Rl X.K ι S H ∧ XVs X.K ι H xs vs ∧ m S xs ρ = some ρ' ∧ ∀ σ', LR X.K ι H ρ' σ' → Off ts σ σ' → Q σ' H
theorem pg_imp {X : Cx} {e : Expr} {t t' : TG} (h : PG X e t) (i : ∀ v σ H Q, t' v σ H Q → t v σ H Q) : PG X e t' := ⟨fun pins s σ H v u Q I r q => h.run pins s σ H v u Q I r (i _ _ _ _ q)⟩
theorem pgs_imp {X : Cx} {e : List Expr} {t t' : TGs} (h : PGs X e t) (i : ∀ v σ H Q, t' v σ H Q → t v σ H Q) : PGs X e t' := ⟨fun pins s σ H v u Q I r q => h.run pins s σ H v u Q I r (i _ _ _ _ q)⟩
def mgName (i : Nat) : MG := fun _ x ρ => some (ρ.set i (some x))
def mgNil : MGs := fun _ xs ρ => match xs with | [] => some ρ | _ => none
def mgCons (g : MG) (r : MGs) : MGs := fun S xs ρ => match xs with | x :: t => (g S x ρ).bind fun ρ' => r S t ρ' | [] => none
def mgTup (n : Nat) (g : MGs) : MG := fun S x ρ => match x.seq S with | some (true, xs) => if xs.length = n then g S xs ρ else none | _ => none
section
variable {X : Cx} {W : WX} {pos : Pos}
theorem pmg_name {i : Nat} {x : Str} (hN : X.N.Nodup) (hi : X.N[i]? = some x) (hx : Loc X.env.scope x) (hf : X.fn x = true ∨ X.env.scope.names.lookup x = some .local := by first | exact .inl rfl | exact .inr rfl | assumption) : PMG X [i] (.Name x pos) (mgName i) :=
  pg_imp (pg_name hN hi hx hf) fun v σ H Q ⟨ι, S, ρ, y, ρ', hl, hr, hx, e, h⟩ => by
    cases e
    exact h _ (hl.set i hx) ⟨List.length_set, fun j hj => List.getElem?_set_ne (fun z => hj (by simp [z]))⟩
theorem pmgs_nil : PMGs X [] [] mgNil := pgs_imp pgs_nil fun v σ H Q ⟨ι, S, ρ, xs, ρ', hl, hr, hx, e, h⟩ => by
  cases hx with
  | nil => cases e; exact ⟨rfl, h _ hl (Off.refl _ _)⟩
  | cons a b => cases e
theorem pmgs_cons {t1 t2 : List Nat} {e : Expr} {es : List Expr} {g : MG} {r : MGs} (h1 : PMG X t1 e g) (h2 : PMGs X t2 es r)
    (hs : (assignEach (e :: es) X.env).map (·.2) = assign e X.env :: (assignEach es X.env).map (·.2) := by rfl) : PMGs X (t1 ++ t2) (e :: es) (mgCons g r) :=
  pgs_imp (pgs_cons h1 h2 hs) fun v σ H Q ⟨ι, S, ρ, xs, ρ', hl, hr, hx, e, h⟩ => by
    cases hx with
    | nil => cases e
    | @cons a b l1 l2 rr t =>
      simp only [mgCons, Option.bind_eq_some_iff] at e
      obtain ⟨ρ1, e1, e2⟩ := e
      exact ⟨b, l2, rfl, ι, S, ρ, a, ρ1, hl, hr, rr, e1, fun σ1 hl1 o1 => ⟨ι, S, ρ1, l1, ρ', hl1, hr, t, e2, fun σ2 hl2 o2 => h σ2 hl2 ⟨o2.1.trans o1.1, fun j hj => (o2.2 j fun z => hj (List.mem_append_right _ z)).trans (o1.2 j fun z => hj (List.mem_append_left _ z))⟩⟩⟩
theorem pmg_tup {ts : List Nat} {es : List Expr} {k : Nat} {g : MGs} {n : Nat} (hc : X.calm = true) (h : PMGs X ts es g)
    (hn : (assignEach es X.env).length = n := by rfl) (hst : (assignEach es X.env).findIdx? (·.1) = none := by rfl) : PMG X ts (.Tuple es k pos) (mgTup n g) :=
  pg_imp (pg_tup hc h hn hst) fun v σ H Q ⟨ι, S, ρ, x, ρ', hl, hr, hx, e, q⟩ => by
    unfold mgTup at e
    cases e1 : x.seq S with
    | none => rw [e1] at e; cases e
    | some p =>
      obtain ⟨t, xs⟩ := p
      rw [e1] at e
      cases t with
      | false => cases e
      | true =>
        simp only at e
        by_cases hl2 : xs.length = n
        · rw [if_pos hl2] at e
          obtain ⟨a, vs, rfl, h1, h2⟩ := Mv.seq_ok hr hx e1
          exact ⟨a, vs, rfl, h1, by rw [← h2.length]; exact hl2, ι, S, ρ, xs, ρ', hl, hr, XCs.xv h2, e, q⟩
        · rw [if_neg hl2] at e; cases e

/-! ### simple statements -/
def mSkip : MS := fun ρ S => .nx ρ S
def mBrk : MS := fun ρ S => .bk ρ S
def mCnt : MS := fun ρ S => .ct ρ S
def mExpr (m : ME) : MS := fun ρ S => (m ρ S).go ρ fun _ S1 => .nx ρ S1
def mAsg (m : ME) (g : MG) : MS := fun ρ S => (m ρ S).go ρ fun x S1 => match g S1 x ρ with | some ρ' => .nx ρ' S1 | none => .bad
def mRet (m : ME) : MS := fun ρ S => (m ρ S).go ρ fun x S1 => .rt x S1
def mRetN : MS := fun _ S => .rt (.d .none) S
def mIfS (c : MT) (a b : MS) : MS := fun ρ S => (c ρ S).go ρ fun k S1 => if k = true then a ρ S1 else b ρ S1
def mSeq (a b : MS) : MS := fun ρ S => match a ρ S with | .nx ρ' S' => b ρ' S' | r => r
theorem pms_pass : PMS X W (.Pass pos) mSkip := ps_imp ps_pass fun D σ H ⟨ι, S, ρ, hl, hr, h⟩ => h _ _ _ (Sub.refl _ _) hr hl
theorem pms_brk : PMS X W (.Break pos) mBrk := ps_imp ps_break fun D σ H ⟨ι, S, ρ, hl, hr, h⟩ => h _ _ _ (Sub.refl _ _) hr hl
theorem pms_cnt : PMS X W (.Continue pos) mCnt := ps_imp ps_continue fun D σ H ⟨ι, S, ρ, hl, hr, h⟩ => h _ _ _ (Sub.refl _ _) hr hl
theorem pms_expr {e : Expr} {m : ME} (h : PM X W e m) (hs : swapsWith e none pos.line X.env = pure false := by rfl) : PMS X W (.Expr e pos) (mExpr m) :=
  ps_imp (ps_expr h hs) fun D σ H ⟨ι, S, ρ, hl, hr, h⟩ => ⟨ι, S, ρ, hl, hr, stepS h hl fun x v ι1 H1 S1 s1 r1 hx h1 => h1 _ _ _ (Sub.refl _ _) r1 (hl.mono s1)⟩
theorem asg_core {ts : List Nat} {m : ME} {g : MG} {D : Ends} {σ : L2.St} {H : Hp} (h : tS X.K W (mAsg m g) D σ H) :
    tAsg (tG (XV X.K) X.K W m) (fun v σ H Q => ∃ ι S ρ x ρ', LR X.K ι H ρ σ ∧ Rl X.K ι S H ∧ XV X.K ι H x v ∧ g S x ρ = some ρ' ∧ ∀ σ', LR X.K ι H ρ' σ' → Off ts σ σ' → Q σ' H) D σ H := by
  obtain ⟨ι, S, ρ, hl, hr, h⟩ := h
  refine ⟨ι, S, ρ, hl, hr, stepS h hl fun x v ι1 H1 S1 s1 r1 hx h1 => ?_⟩
  cases e : g S1 x ρ with
  | none => simp only [e] at h1; exact h1.elim
  | some ρ' =>
    simp only [e] at h1
    exact ⟨ι1, S1, ρ, x, ρ', hl.mono s1, r1, hx, e, fun σ' l' _ => h1 _ _ _ (Sub.refl _ _) r1 l'⟩
theorem pms_asg {ts : List Nat} {tg e : Expr} {m : ME} {g : MG} (h : PM X W e m) (hg : PMG X ts tg g) (hs : swapsWithSole [tg] e pos.line X.env = pure false := by rfl) (hw : swappedStores [tg] e X.env = pure none := by rfl)
    (h1 : (assignEach [tg] X.env).map (·.2) = [assign tg X.env] := by rfl) : PMS X W (.Assign [tg] e pos) (mAsg m g) := ps_imp (ps_asg h hg hs hw h1) fun D σ H h => asg_core h
theorem pms_set {i : Nat} {x : Str} {e : Expr} {m : ME} {pos' : Pos} (hN : X.N.Nodup) (hi : X.N[i]? = some x) (hx : Loc X.env.scope x) (h : PM X W e m) (hs : swapsWith e (some (.Name x pos')) pos.line X.env = pure false := by rfl)
    (hf : X.fn x = true ∨ X.env.scope.names.lookup x = some .local := by first | exact .inl rfl | exact .inr rfl | assumption) : PMS X W (.Assign [.Name x pos'] e pos) (mAsg m (mgName i)) := by
  refine ps_imp (ps_set hN hi hx h hs hf) fun D σ H h => ?_
  obtain ⟨ι, S, ρ, hl, hr, h⟩ := h
  refine ⟨ι, S, ρ, hl, hr, stepS h hl fun x v ι1 H1 S1 s1 r1 hx h1 => ?_⟩
  exact h1 _ _ _ (Sub.refl _ _) r1 ((hl.mono s1).set i hx)
theorem pms_ret {e : Expr} {m : ME} (h : PM X W e m) : PMS X W (.Return (some e) pos) (mRet m) :=
  ps_imp (ps_ret h) fun D σ H ⟨ι, S, ρ, hl, hr, h⟩ => ⟨ι, S, ρ, hl, hr, stepS h hl fun x v ι1 H1 S1 s1 r1 hx h1 => h1 _ _ _ (Sub.refl _ _) r1 hx⟩
theorem pms_retN : PMS X W (.Return none pos) mRetN := ps_imp ps_retN fun D σ H ⟨ι, S, ρ, hl, hr, h⟩ => h _ _ _ (Sub.refl _ _) hr .non
theorem pmb_nil : PMB X W [] mSkip := pss_imp pss_nil fun D σ H ⟨ι, S, ρ, hl, hr, h⟩ => h _ _ _ (Sub.refl _ _) hr hl
theorem pmb_one {st : Stmt} {m : MS} (h : PMS X W st m) : PMB X W [st] m := pss_one h
theorem pmb_cons {st : Stmt} {rest : List Stmt} {a b : MS} (h1 : PMS X W st a) (h2 : PMB X W rest b) : PMB X W (st :: rest) (mSeq a b) := by
  refine pss_imp (pss_cons h1 h2) fun D σ H ⟨ι, S, ρ, hl, hr, h⟩ => ⟨ι, S, ρ, hl, hr, ?_⟩
  unfold mSeq at h
  cases e : a ρ S with
  | nx ρ' S' => rw [e] at h; exact fun ι' H' σ' s r l => ⟨ι', S', ρ', l, r, h.sub s⟩
  | rt x S' => rw [e] at h; exact h
  | bk x S' => rw [e] at h; exact h
  | ct x S' => rw [e] at h; exact h
  | exc x y S' => rw [e] at h; exact h
  | bad => rw [e] at h; exact h
theorem pms_if {c : Expr} {a b : List Stmt} {mc : MT} {ma mb : MS} (hc : PB X W c mc) (ha : PMB X W a ma) (hb : PMB X W b mb) : PMS X W (.If c a b pos) (mIfS mc ma mb) := by
  refine ps_imp (ps_if hc ha hb) fun D σ H ⟨ι, S, ρ, hl, hr, h⟩ => ?_
  refine ⟨ι, S, ρ, hl, hr, stepS h hl fun x v ι1 H1 S1 s1 r1 hx h1 => ?_⟩
  cases hx
  cases x with
  | true => exact iteT ⟨ι1, S1, ρ, hl.mono s1, r1, by simpa using h1⟩
  | false => exact iteF ⟨ι1, S1, ρ, hl.mono s1, r1, by simpa using h1⟩
end

/-! ### a frame's own list is frozen -/
def fz (x : Mv) (S : Sg) : Res Mv :=
  match x with
  | .own i => match S[i]? with
    | some (true, .lst xs) => match allD xs with | some ds => .ok (.d (.list ds)) (S.set i (true, .gone)) | none => .bad
    | _ => .bad
  | x => .ok x S
def mFz (m : ME) : ME := fun ρ S => (m ρ S).bind fz
theorem pm_fz {X : Cx} {W : WX} {e : Expr} {m : ME} (h : PM X W e m) : PM X W e (mFz m) := by
  refine pe_imp (pe_b .frz h) fun σ H Q ⟨ι, S, ρ, hl, hr, h⟩ => ⟨ι, S, ρ, hl, hr, step h fun x v ι1 H1 S1 s1 r1 hx h1 => ?_⟩
  cases x with
  | own i =>
    obtain ⟨a, hi, rfl⟩ := hx
    simp only [fz] at h1
    cases e : S1[i]? with
    | none => simp only [e] at h1; exact h1.elim
    | some p =>
      obtain ⟨b, o⟩ := p
      simp only [e] at h1
      cases b with
      | false => exact h1.elim
      | true =>
        cases o with
        | lst xs =>
          simp only at h1
          cases e2 : allD xs with
          | none => simp only [e2] at h1; exact h1.elim
          | some ds =>
            simp only [e2] at h1
            obtain ⟨vs, hp, hx⟩ := r1.cell i true _ a e hi
            refine .inr ⟨a, _, rfl, hp, trivial, fun o => ?_⟩
            obtain ⟨r2, s2⟩ := r1.put (u := .frz o (.lst vs)) (o := .gone) ⟨_, e⟩ hi hp trivial trivial
            exact h1 _ _ _ s2 r2 (.lst (.inl ⟨o, upd_same⟩) (FDs.mono s2.grow (allD_FDs hx e2)))
        | _ => exact h1.elim
  | _ => exact .inl (h1 _ _ _ (Sub.refl _ _) r1 hx)

/-! ### defs -/
def trim (n : Nat) (S : Sg) : Sg := if (S.drop n).all (·.1) = true then S.take n else S
def exFree (e : Ex) : Bool := match e.fs with | none => true | some l => l.all (·.2.free)
def fin (n : Nat) : RS → Res Mv
  | .nx _ S => .ok (.d .none) (trim n S)
  | .rt x S => if x.free = true then .ok x (trim n S) else .bad
  | .exc e _ S => if exFree e = true then .exc e (trim n S) else .bad
  | _ => .bad
def fnM (n : Nat) (m : MS) : List Mv → Sg → Res Mv := fun xs S => fin S.length (m (xs.map some ++ List.replicate (n - xs.length) none) S)
def spM (K : PySem.W.Frag) (n : Nat) (m : List Mv → Sg → Res Mv) : Sp := fun vs H Q E => ∃ ι S xs, XCs K ι H xs vs ∧ xs.length = n ∧ Rl K ι S H ∧ Post (XV K) K (fun c d _ H => E c d H) ι [] H Q (m xs S)
/-- a def's promise, called where no repr runs -/
structure FnM (P : Program) (w : World) (K : PySem.W.Frag) (mg : Str → Option Value) (base : Heap) (k : Nat) (f : Addr) (fd : FuncData) (ps : List Str) (m : List Mv → Sg → Res Mv) : Prop where
  run : ∀ (A : Around) (outer : List Env) (s : Shared) (H : Hp) (args : Args) (us : List Value) (vs : List V) (Q : VK) (E : XK), Room k A → A.guards = some [] → Env0 P w K mg base A outer s H → BindsTo s fd args (ps.zip us) → Vals vs us →
    spM K ps.length m vs H Q E → codeAny (model P w) A (.call (.ref f) args) (CR (L2.CX P w) outer P w H s Q E) s
theorem FnM.mono {P : Program} {w : World} {K : PySem.W.Frag} {mg : Str → Option Value} {base : Heap} {j k : Nat} {f : Addr} {fd : FuncData} {ps : List Str} {m : List Mv → Sg → Res Mv} (F : FnM P w K mg base j f fd ps m) (h : j ≤ k) : FnM P w K mg base k f fd ps m :=
  ⟨fun A outer s H args us vs Q E hr => F.run A outer s H args us vs Q E (hr.mono h)⟩
section
variable {K : PySem.W.Frag} {ι ι1 : Io} {H H1 : Hp} {S S1 : Sg}
theorem trim_ok (hr : Rl K ι S H) (s : Sub ι H ι1 H1) (r1 : Rl K ι1 S1 H1) : ∃ ι2, Sub ι H ι2 H1 ∧ Rl K ι2 (trim S.length S1) H1 ∧ (∀ x v, x.free = true → XV K ι1 H1 x v → XV K ι2 H1 x v) := by
  unfold trim
  by_cases c : (S1.drop S.length).all (·.1) = true
  · rw [if_pos c]
    obtain ⟨t, rfl, _⟩ := s.pre
    have hl : S.length ≤ S1.length := by
      have := r1.len
      rw [List.length_append, hr.len] at this
      omega
    have e : S1.take S.length ++ S1.drop S.length = S1 := List.take_append_drop _ _
    have hlen : ι.length = (S1.take S.length).length := by rw [List.length_take, hr.len]; omega
    have hT : ∀ p ∈ S1.drop S.length, p.1 = true := fun p hp => List.all_eq_true.mp c p hp
    rw [← e] at r1
    have r2 := Rl.trim r1 hlen hT
    refine ⟨ι, Sub.same s.grow s.keep s.live, r2, fun x v hf hx => XV.trim (t := t) (fun p hp => ?_) hf hx⟩
    have hf2 : ι.map (·.1) = (S1.take S.length).map (·.1) ∧ t.map (·.1) = (S1.drop S.length).map (·.1) := by
      have e := r1.flag
      rw [List.map_append, List.map_append] at e
      exact List.append_inj e (by simpa using hlen)
    have : p.1 ∈ (S1.drop S.length).map (·.1) := by rw [← hf2.2]; exact List.mem_map_of_mem hp
    obtain ⟨q, hq, e⟩ := List.mem_map.mp this
    rw [← e]; exact hT q hq
  · rw [if_neg c]
    exact ⟨ι1, s, r1, fun _ _ _ h => h⟩
theorem lr_start {xs : List Mv} {vs : List V} (h : XCs K ι H xs vs) (n : Nat) : LR K ι H (xs.map some ++ List.replicate (n - xs.length) none) (vs.map some ++ List.replicate (n - vs.length) none) := by
  have hl := h.length
  refine ⟨by simp [hl], fun i x e => ?_⟩
  by_cases hi : i < xs.length
  · rw [List.getElem?_append_left (by simpa using hi), List.getElem?_map] at e
    cases q : xs[i]? with
    | none => rw [q] at e; cases e
    | some y =>
      rw [q] at e
      cases e
      have get : ∀ {xs : List Mv} {vs : List V} {i : Nat} {x : Mv}, XCs K ι H xs vs → xs[i]? = some x → ∃ v, vs[i]? = some v ∧ XC K ι H x v := by
        intro xs vs i x h
        induction h generalizing i with
        | nil => intro e; cases e
        | cons r t ih =>
          cases i with
          | zero => intro e; cases e; exact ⟨_, rfl, r⟩
          | succ i => intro e; exact ih e
      obtain ⟨v, e1, r⟩ := get h q
      refine ⟨v, ?_, r.2⟩
      rw [List.getElem?_append_left (by simpa [← hl] using hi), List.getElem?_map, e1]; rfl
  · rw [List.getElem?_append_right (by simpa using hi)] at e
    have := List.mem_of_getElem? e
    have := (List.mem_replicate.mp this).2
    cases this
end
section
variable {P : Program} {w : World} {K : PySem.W.Frag} {mg : Str → Option Value} {base : Heap}
/-- from a body's mirror to the frame's end -/
theorem body_end {X : Cx} {k n : Nat} {m : MS} {xs : List Mv} {vs : List V} {ι : Io} {S : Sg} {H : Hp} {Q : VK} {E : XK} (hx : XCs X.K ι H xs vs) (hR : Rl X.K ι S H)
    (h : Post (XV X.K) X.K (fun c d _ H => E c d H) ι [] H Q (fnM n m xs S)) : tS X.K (fun c d _ H => E c d H) m { nx := fun _ H' => Q .non H', rt := Q } (vs.map some ++ List.replicate (n - vs.length) none) H := by
  refine ⟨ι, S, _, lr_start hx n, hR, ?_⟩
  unfold fnM at h
  generalize (xs.map some ++ List.replicate (n - xs.length) none) = ρ at h ⊢
  cases e : m ρ S with
  | nx ρ' S' =>
    rw [e] at h
    intro ι1 H1 σ' s1 r1 l1
    obtain ⟨ι2, s2, r2, _⟩ := trim_ok hR s1 r1
    exact h _ _ _ s2 r2 .non
  | rt y S' =>
    rw [e] at h
    intro ι1 H1 v s1 r1 hy
    simp only [fin] at h
    by_cases c : y.free = true
    · rw [if_pos c] at h
      obtain ⟨ι2, s2, r2, tr⟩ := trim_ok hR s1 r1
      exact h _ _ _ s2 r2 (tr _ _ c hy)
    · rw [if_neg c] at h; exact h.elim
  | bk ρ' S' => rw [e] at h; exact h.elim
  | ct ρ' S' => rw [e] at h; exact h.elim
  | exc ex ρ' S' =>
    rw [e] at h
    intro ι1 H1 d σ' s1 r1 l1 hy
    simp only [fin] at h
    by_cases c : exFree ex = true
    · rw [if_pos c] at h
      obtain ⟨ι2, s2, r2, tr⟩ := trim_ok hR s1 r1
      refine h _ _ _ s2 r2 ?_
      unfold ExR at hy ⊢
      unfold exFree at c
      cases e3 : ex.fs with
      | none => trivial
      | some l =>
        rw [e3] at hy c
        obtain ⟨dd, kv, h1, h2, h3⟩ := hy
        refine ⟨dd, kv, h1, h2, ?_⟩
        clear e3 h1 h2 e h
        simp only at c
        induction h3 with
        | nil => exact .nil
        | cons r t ih =>
          simp only [List.all_cons, Bool.and_eq_true] at c
          exact .cons ⟨r.1, tr _ _ c.1 r.2⟩ (ih c.2)
    · rw [if_neg c] at h; exact h.elim
  | bad => rw [e] at h; exact h.elim
theorem fn_m {x qual : Str} {st : Stmt} {f : Addr} {fd : FuncData} {N ps : List Str} {k : Nat} {m : MS} (F : Fun K x qual st f fd) (Sc : FnScope N ps (defScope st))
    (hb : ∀ (cdv : Value) (A : Around) (outer : List Env) (s : Shared) (H : Hp) (E : XK), Room k (A.deeper (envOfC qual (defScope st) s.heap.objs.size f cdv)) → (A.deeper (envOfC qual (defScope st) s.heap.objs.size f cdv)).guards = some [] →
      Takes (cxOf (L2.CX P w) P w K mg base N qual (defScope st) f cdv A outer s H E) (fun c d _ H => E c d H) →
      PassesOwn (model P w) (A.deeper (envOfC qual (defScope st) s.heap.objs.size f cdv)) (envOfC qual (defScope st) s.heap.objs.size f cdv) (cxOf (L2.CX P w) P w K mg base N qual (defScope st) f cdv A outer s H E).xe →
      PMB (cxOf (L2.CX P w) P w K mg base N qual (defScope st) f cdv A outer s H E) (fun c d _ H => E c d H) (defBody st) m) : FnM P w K mg base (k + 1) f fd ps (fnM N.length m) := by
  obtain ⟨oc, od, kV, doc, pm, an, cdv, ct, osl, rfl, lk, hcd⟩ := F.ex
  refine ⟨fun A outer s H args us vs Q E room gds ent bnd rel want => ?_⟩
  obtain ⟨ι, S, xs, hx, hlen, hR, want⟩ := want
  have hlv : vs.length = ps.length := by rw [← hx.length]; exact hlen
  have kin : K.In s.heap := ent.mod.kin.keeps fun b o e => (ent.bs b o e).1
  have lim : s.heap.NoLimit := ent.mod.nolimit.keeps fun b o e => (ent.bs b o e).1
  have places : ∀ y ∈ ps.zip us, (defScope st).names.lookup y.1 = some .local ∨ ((defScope st).names.lookup y.1 = some .cell ∧ ((cellsFrom (s.heap.objs.size + 1) (defScope st).names []).lookup y.1).isSome = true) := by
    rintro ⟨n, v⟩ hy
    rcases Sc.par n (List.of_mem_zip hy).1 with q | q
    · exact .inl q
    · exact .inr ⟨q, PySem.W.cellsFrom_some _ _ _ (.inl q)⟩
  refine codeAny_call_function room.depth (kin _ _ lk) rfl Sc.co Sc.gen rfl (PySem.W.codeRec_of kin hcd) (bnd _ _ _ _ ?_)
  refine wpAny_newFunctionEnv_cells Sc.kind places fun env he s1 begun => ?_
  subst he
  refine ⟨lim.keeps begun.toInCall.keep, codeAny_func ?_⟩
  have I := inv_start (CX := L2.CX P w) (E := E) (cd := cdv) (qual := qual) (f := f) Sc room.hd ent hlv rel begun
  have body := hb cdv A outer s H E (room.deeper _) gds (takes_of (X := cxOf (L2.CX P w) P w K mg base N qual (defScope st) f cdv A outer s H E) rfl rfl rfl rfl) (passes_of (X := cxOf (L2.CX P w) P w K mg base N qual (defScope st) f cdv A outer s H E) rfl)
  refine wpAny_mono (body.run [] s1 (start N vs) H _ I (body_end (X := cxOf (L2.CX P w) P w K mg base N qual (defScope st) f cdv A outer s H E) (k := k) hx hR want)) (fun fl s' got => ?_) fun e s' got => got
  cases fl with
  | ret u => exact let ⟨v, _, H', J, rv, q⟩ := got; ⟨v, H', J.os, J.bare, J.base, J.hok, rv, q⟩
  | next => exact let ⟨_, H', J, q⟩ := got; ⟨V.non, H', J.os, J.bare, J.base, J.hok, rfl, q⟩
  | brk => exact let ⟨_, _, _, q⟩ := got; False.elim q
  | cont => exact let ⟨_, _, _, q⟩ := got; False.elim q
end
/-- calls of a def by its name -/
def mCall (n : Nat) (f : List Mv → Sg → Res Mv) (ds : List Mv) (a : MA) : ME := fun ρ S => (a ρ S).bind fun xs S1 => if frees xs = true ∧ (xs ++ ds).length = n then f (xs ++ ds) S1 else .bad
section
variable {X : Cx} {W : WX} {k : Nat} {f : Addr} {fd : FuncData} {ps : List Str} {m : List Mv → Sg → Res Mv} {x : Str} {p pos : Pos} {e : Expr} {es : List Expr} {ms : MA} {ds : List Mv} {dvs : List V} {dus : List Value}
theorem Paired.append {α β : Type} {F : α → β → Prop} {xs xs' : List α} {ys ys' : List β} (h : Paired F xs ys) (h' : Paired F xs' ys') : Paired F (xs ++ xs') (ys ++ ys') := by
  induction h with
  | nil => exact h'
  | cons r t ih => exact .cons r ih
/-- the callee runs -/
theorem run_m {pins : List (Addr × Obj)} {σ : L2.St} {H : Hp} {s : Shared} {Q : VK} {us : List Value} {vs : List V} {args : Args} (F : FnM X.prog X.w X.K X.mg X.base k f fd ps m) (hr : Room k X.A) (gds : X.A.guards = some []) (tk : Takes X W) (hb : BindsTo s fd args (ps.zip us))
    (I : Inv X pins σ H s) (r : Vals vs us) (h : spM X.K ps.length m vs H Q (WE W σ)) : codeAny (model X.prog X.w) X.A (.call (.ref f) args) (fun r s' => match r with | .ok (.ret u) => EP X pins σ Q u s' | .ok _ => False | .error e => X.xe e s') s := by
  refine codeAny_mono (F.run X.A X.stack s H args us vs Q (WE W σ) hr gds I.env0 hb r h) fun res s' got => ?_
  cases res with
  | error e => exact passAt tk σ pins H s e s' I got
  | ok fl =>
    cases fl with
    | ret u => exact I.after got
    | next => exact got
    | brk => exact got
    | cont => exact got
theorem pm_call {n : Nat} (F : FnM X.prog X.w X.K X.mg X.base k f fd ps m) (hr : Room k X.A) (gds : X.A.guards = some []) (tk : Takes X W) (hg : Gl X x) (hm : X.mg x = some (.ref f)) (hk : PySem.W.keepIn X.K (.ref f) = true) (hb : L2.Binds X.K fd ps dus) (hd : Vals dvs dus)
    (hds : ∀ ι H, XCs X.K ι H ds dvs) (ha : PL X W (e :: es) ms) (hn : ps.length = n := by rfl) (hdb : (x == ("__debug__" : Str)) = false := by decide) (he : starEach (e :: es) X.env = (false, eval e X.env) :: starEach es X.env := by rfl) (hpl : (backTo pos (starEach es X.env)).any (·.1) = false := by rfl) :
    PM X W (.Call (.Name x p) (e :: es) [] pos) (mCall n m ds ms) := by
  subst hn
  refine ⟨fun pins s σ H Q I ⟨ι, S, ρ, hl, hR, h⟩ => ?_⟩
  refine wpAny_Call_Name_kw (ld_glob I hg hm ?_ hdb)
  have want : tG (XVs X.K) X.K W ms σ H fun vs H1 => spM X.K ps.length m (vs ++ dvs) H1 Q (WE W σ) := ⟨ι, S, ρ, hl, hR, step h fun xs vs ι1 H1 S1 s1 r1 hx h1 => by
    by_cases c : frees xs = true ∧ (xs ++ ds).length = ps.length
    · rw [if_pos c] at h1
      refine ⟨ι1, S1, xs ++ ds, Paired.append (Paired_frees hx c.1) (hds _ _), c.2, r1, ?_⟩
      cases e : m (xs ++ ds) S1 with
      | ok y S' => rw [e] at h1; exact h1
      | exc y S' => rw [e] at h1; exact h1
      | bad => rw [e] at h1; exact h1
    · rw [if_neg c] at h1; exact h1.elim⟩
  refine PySem.W.callWith_K (h₀ := X.base) I.ok.mod.kin hk (thn (ha.run pos pins s σ H _ I want) fun us s1 ⟨vs, H1, I1, r, q⟩ => ⟨I1.kIn, ?_⟩) he hpl
  have rr : Vals (vs ++ dvs) (us ++ dus) := r.append hd
  have hlen : (us ++ dus).length = ps.length := by
    obtain ⟨_, _, xs, hx, hl2, _⟩ := id q
    rw [← rr.length, ← hx.length]; exact hl2
  refine wpAny_call (codeAny_mono (run_m F hr gds tk (hb s1 us I1.kIn hlen) I1 rr q) fun res s' got => ?_)
  cases res with
  | error e => exact got
  | ok fl => cases fl <;> exact got
end
end MM
end
section
set_option Elab.async false
set_option linter.all false
set_option maxRecDepth 100000
set_option maxHeartbeats 4000000
set_option autoImplicit false
namespace MM
open PySem PySem.Spec PyProof.Rows L2

/-! ### while -/
def mWhile (c : MT) (b : MS) : Nat → MS
  | 0 => fun _ _ => .bad
  | n + 1 => fun ρ S => (c ρ S).go ρ fun k S1 => if k = true then (match b ρ S1 with
      | .nx ρ' S' => mWhile c b n ρ' S' | .ct ρ' S' => mWhile c b n ρ' S' | .bk ρ' S' => .nx ρ' S' | r => r) else .nx ρ S1
section
variable {X : Cx} {W : WX} {pos : Pos}
theorem pms_while {c : Expr} {body : List Stmt} {mc : MT} {mb : MS} (n : Nat) (hp : PassesOwn (model X.prog X.w) X.A X.env X.xe) (hc : PB X W c mc) (hb : PMB X W body mb) : PMS X W (.While c body [] pos) (mWhile mc mb n) := by
  refine ps_imp (ps_while hp hc hb) fun D σ H ⟨ι, S, ρ, hl, hr, h⟩ => ?_
  refine ⟨fun n σ H => ∃ ι S ρ, LR X.K ι H ρ σ ∧ Rl X.K ι S H ∧ PostS X.K W ι H D (mWhile mc mb n ρ S), ⟨n, ι, S, ρ, hl, hr, h⟩, fun n σ H hW => ?_⟩
  obtain ⟨ι, S, ρ, hl, hr, h⟩ := hW
  cases n with
  | zero => exact h.elim
  | succ n =>
    refine ⟨ι, S, ρ, hl, hr, stepS h hl fun x v ι1 H1 S1 s1 r1 hx h1 => ?_⟩
    cases hx
    cases x with
    | false => exact iteF ((show PostS _ _ _ _ _ (.nx ρ S1) by simpa using h1) _ _ _ (Sub.refl _ _) r1 (hl.mono s1))
    | true =>
      refine iteT ⟨fun σ H => ∃ ι S ρ, LR X.K ι H ρ σ ∧ Rl X.K ι S H ∧ PostS X.K W ι H D (mWhile mc mb n ρ S), fun σ' H' q => ⟨n, Nat.lt_succ_self n, q⟩, ι1, S1, ρ, hl.mono s1, r1, ?_⟩
      rw [if_pos rfl] at h1
      cases e : mb ρ S1 with
      | nx ρ' S' => rw [e] at h1; exact fun ι' H' σ' s r l => ⟨ι', S', ρ', l, r, h1.sub s⟩
      | ct ρ' S' => rw [e] at h1; exact fun ι' H' σ' s r l => ⟨ι', S', ρ', l, r, h1.sub s⟩
      | bk ρ' S' => rw [e] at h1; exact h1
      | rt ρ' S' => rw [e] at h1; exact h1
      | exc _ ρ' S' => rw [e] at h1; exact h1
      | bad => rw [e] at h1; exact h1

/-! ### what is walked -/
def ItM (K : PySem.W.Frag) (ι : Io) (H : Hp) (xs : List Mv) (J : It) : Prop :=
  ∀ ι1 H1 S1, Sub ι H ι1 H1 → Rl K ι1 S1 H1 → ∀ i, (∀ x, xs[i]? = some x → J.go i H1 ∧ ∀ v H2, J.yld i H1 v H2 → Rl K ι1 S1 H2 ∧ Sub ι1 H1 ι1 H2 ∧ XV K ι1 H2 x v) ∧ (xs.length ≤ i → J.stop i H1)
def PIM (X : Cx) (W : WX) (tg iter : Expr) (m : MA) : Prop := PI X tg iter (tG (ItM X.K) X.K W m)
theorem pi_imp {tg e : Expr} {t t' : TI} (h : PI X tg e t) (i : ∀ σ H Q, t' σ H Q → t σ H Q) : PI X tg e t' := ⟨fun pins s σ H Q I q => h.run pins s σ H Q I (i _ _ _ q)⟩
theorem pi_or {tg e : Expr} {t t' : TI} (h : PI X tg e t) (h' : PI X tg e t') : PI X tg e (fun σ H Q => t σ H Q ∨ t' σ H Q) := ⟨fun pins s σ H Q I q => by
  rcases q with q | q
  · exact h.run pins s σ H Q I q
  · exact h'.run pins s σ H Q I q⟩
theorem ItM.mono {K : PySem.W.Frag} {ι ι1 : Io} {H H1 : Hp} {xs : List Mv} {J : It} (h : ItM K ι H xs J) (s : Sub ι H ι1 H1) : ItM K ι1 H1 xs J := fun ι2 H2 S2 s2 => h ι2 H2 S2 (s.trans s2)
theorem Paired.at {α β : Type} {F : α → β → Prop} {xs : List α} {ys : List β} (h : Paired F xs ys) {i : Nat} {x : α} (e : xs[i]? = some x) : ∃ y, ys[i]? = some y ∧ F x y := by
  induction h generalizing i with
  | nil => cases e
  | cons r t ih =>
    cases i with
    | zero => cases e; exact ⟨_, rfl, r⟩
    | succ i => exact ih e
/-- a text's signs -/
def signs (z : Str) : List Mv := z.cps.toList.map fun c => .d (.str ⟨#[c]⟩)
theorem itm_lst {K : PySem.W.Frag} {ι : Io} {H : Hp} {a : Addr} {vs : List V} {ds : List PyData} (h : FzL K H a vs) (hs : FDs K H ds vs) : ItM K ι H (ds.map .d) (Itl K a) := by
  intro ι1 H1 S1 s r i
  have h1 := (h.mono s.grow).sq
  have p : XCs K ι1 H1 (ds.map .d) vs := FDs.xcs (FDs.mono s.grow hs)
  refine ⟨fun x e => ?_, fun e => ⟨vs, h1, by rw [← p.length]; exact e⟩⟩
  obtain ⟨v, e1, r1⟩ := Paired.at p e
  refine ⟨⟨vs, v, h1, e1⟩, fun v' H2 ⟨e2, q⟩ => ?_⟩
  have e3 := q vs h1
  rw [e1] at e3
  cases e3
  rw [e2]
  exact ⟨r, Sub.refl _ _, r1.2⟩
theorem itm_tup {K : PySem.W.Frag} {ι : Io} {H : Hp} {a : Addr} {vs : List V} {ds : List PyData} (h : SqT K H a vs) (hs : FDs K H ds vs) : ItM K ι H (ds.map .d) (Itt K a) := by
  intro ι1 H1 S1 s r i
  have h1 := SqT_mono s.grow h
  have p : XCs K ι1 H1 (ds.map .d) vs := FDs.xcs (FDs.mono s.grow hs)
  refine ⟨fun x e => ?_, fun e => ⟨vs, h1, by rw [← p.length]; exact e⟩⟩
  obtain ⟨v, e1, r1⟩ := Paired.at p e
  refine ⟨⟨vs, v, h1, e1⟩, fun v' H2 ⟨e2, q⟩ => ?_⟩
  have e3 := q vs h1
  rw [e1] at e3
  cases e3
  rw [e2]
  exact ⟨r, Sub.refl _ _, r1.2⟩
theorem itm_str {K : PySem.W.Frag} {ι : Io} {H : Hp} (z : Str) : ItM K ι H (signs z) (Its z) := by
  intro ι1 H1 S1 s r i
  have hz : (signs z).length = z.cps.size := by simp [signs]
  refine ⟨fun x e => ?_, fun e => by show z.cps.size ≤ i; rw [← hz]; exact e⟩
  have hi : i < z.cps.size := by rw [← hz]; exact (List.getElem?_eq_some_iff.mp e).1
  refine ⟨hi, fun v' H2 ⟨e2, c, e3, e4⟩ => ?_⟩
  rw [e2, e4]
  refine ⟨r, Sub.refl _ _, ?_⟩
  unfold signs at e
  rw [List.getElem?_map, Array.getElem?_toList, e3] at e
  cases e
  exact .str _
def Mv.items (x : Mv) : Option (List Mv) := match x with
  | .d (.list xs) => some (xs.map .d)
  | .d (.tuple xs) => some (xs.map .d)
  | .d (.str z) => some (signs z)
  | _ => none
def mIter (m : ME) : MA := fun ρ S => (m ρ S).bind fun x S1 => match x.items with | some xs => .ok xs S1 | none => .bad
theorem pim_seq {tg e : Expr} {m : ME} (h : PM X W e m) : PIM X W tg e (mIter m) := by
  refine pi_imp (pi_or (pi_list h) (pi_or (pi_tup h) (pi_str h))) fun σ H R ⟨ι, S, ρ, hl, hr, h⟩ => ?_
  cases e : m ρ S with
  | bad => unfold mIter at h; rw [e] at h; exact h.elim
  | exc ex S' =>
    unfold mIter at h; rw [e] at h
    exact .inl ⟨ι, S, ρ, hl, hr, by rw [e]; exact h⟩
  | ok x S1 =>
    have h0 := h
    unfold mIter at h; rw [e] at h
    cases x with
    | d y =>
      cases y with
      | list ds =>
        refine .inl ⟨ι, S, ρ, hl, hr, ?_⟩
        rw [e]
        intro ι1 H1 v s1 r1 hx
        cases hx with
        | lst hf hs => exact ⟨_, rfl, ⟨_, hf.sq⟩, h _ _ _ s1 r1 (itm_lst hf hs)⟩
      | tuple ds =>
        refine .inr (.inl ⟨ι, S, ρ, hl, hr, ?_⟩)
        rw [e]
        intro ι1 H1 v s1 r1 hx
        cases hx with
        | tup hf hs => exact ⟨_, rfl, ⟨_, hf⟩, h _ _ _ s1 r1 (itm_tup hf hs)⟩
      | str z =>
        refine .inr (.inr ⟨ι, S, ρ, hl, hr, ?_⟩)
        rw [e]
        intro ι1 H1 v s1 r1 hx
        cases hx with
        | str z => exact ⟨z, rfl, h _ _ _ s1 r1 (itm_str z)⟩
      | _ => exact h.elim
    | _ => exact h.elim
def rangeL (lo : Int) (n : Nat) : List Mv := (List.range n).map fun i : Nat => .d (.int (lo + i))
theorem itm_rng {K : PySem.W.Frag} {ι : Io} {H : Hp} (lo : Int) (n : Nat) : ItM K ι H (rangeL lo n) (Itr lo n) := by
  intro ι1 H1 S1 s r i
  have hz : (rangeL lo n).length = n := by simp [rangeL]
  refine ⟨fun x e => ?_, fun e => by show n ≤ i; rw [← hz]; exact e⟩
  have hi : i < n := by rw [← hz]; exact (List.getElem?_eq_some_iff.mp e).1
  refine ⟨hi, fun v' H2 ⟨e2, e3⟩ => ?_⟩
  rw [e2, e3]
  refine ⟨r, Sub.refl _ _, ?_⟩
  unfold rangeL at e
  rw [List.getElem?_map, List.getElem?_range hi] at e
  cases e
  exact .int _
def mRange1 (a : MA) : MA := fun ρ S => (a ρ S).bind fun xs S1 => match xs with | [.d (.int j)] => if -(2 ^ 62) ≤ j ∧ j < 2 ^ 62 then .ok (rangeL 0 j.toNat) S1 else .bad | _ => .bad
theorem pim_range1 {tg a : Expr} {ma : MA} {p : Pos} (hg : Gl X "range") (hm : X.mg "range" = none) (ha : PL X W [a] ma) (hs : starEach [a] X.env = [(false, eval a X.env)] := by rfl) : PIM X W tg (.Call (.Name "range" p) [a] [] pos) (mRange1 ma) := by
  refine pi_imp (pi_range1 hg hm ha hs) fun σ H R ⟨ι, S, ρ, hl, hr, h⟩ => ⟨ι, S, ρ, hl, hr, step h fun xs vs ι1 H1 S1 s1 r1 hx h1 => ?_⟩
  cases hx with
  | nil => exact h1.elim
  | @cons x v xs vs r t =>
    cases t with
    | cons r2 t2 => cases x <;> first | exact h1.elim | (rename_i y; cases y <;> exact h1.elim)
    | nil =>
      cases x with
      | d y =>
        cases y with
        | int j =>
          cases r
          simp only at h1
          by_cases c : -(2 ^ 62) ≤ j ∧ j < 2 ^ 62
          · rw [if_pos c] at h1
            exact ⟨j, rfl, c.1, c.2, h1 _ _ _ (Sub.refl _ _) r1 (itm_rng _ _)⟩
          · rw [if_neg c] at h1; exact h1.elim
        | _ => exact h1.elim
      | _ => exact h1.elim
def mRange2 (a : MA) : MA := fun ρ S => (a ρ S).bind fun xs S1 => match xs with | [.d (.int i), .d (.int j)] => if -(2 ^ 62) ≤ i ∧ i < 2 ^ 62 ∧ -(2 ^ 62) ≤ j ∧ j < 2 ^ 62 then .ok (rangeL i (j - i).toNat) S1 else .bad | _ => .bad
theorem pim_range2 {tg a b : Expr} {ma : MA} {p : Pos} (hg : Gl X "range") (hm : X.mg "range" = none) (ha : PL X W [a, b] ma) (hs : starEach [a, b] X.env = [(false, eval a X.env), (false, eval b X.env)] := by rfl) (hs2 : starEach [b] X.env = [(false, eval b X.env)] := by rfl) : PIM X W tg (.Call (.Name "range" p) [a, b] [] pos) (mRange2 ma) := by
  refine pi_imp (pi_range2 hg hm ha hs hs2) fun σ H R ⟨ι, S, ρ, hl, hr, h⟩ => ⟨ι, S, ρ, hl, hr, step h fun xs vs ι1 H1 S1 s1 r1 hx h1 => ?_⟩
  split at h1
  · rename_i i j
    cases hx with
    | cons r t => cases t with
      | cons r2 t2 => cases t2 with
        | nil =>
          cases r; cases r2
          by_cases c : -(2 ^ 62) ≤ i ∧ i < 2 ^ 62 ∧ -(2 ^ 62) ≤ j ∧ j < 2 ^ 62
          · rw [if_pos c] at h1
            exact ⟨i, j, rfl, c, h1 _ _ _ (Sub.refl _ _) r1 (itm_rng _ _)⟩
          · rw [if_neg c] at h1; exact h1.elim
  · exact h1.elim

/-! ### for -/
def mLoop (g : MG) (b : MS) : List Mv → MS
  | [] => fun ρ S => .nx ρ S
  | x :: xs => fun ρ S => match g S x ρ with
    | none => .bad
    | some ρ1 => match b ρ1 S with
      | .nx ρ' S' => mLoop g b xs ρ' S' | .ct ρ' S' => mLoop g b xs ρ' S' | .bk ρ' S' => .nx ρ' S' | r => r
def mFor (mi : MA) (g : MG) (b : MS) : MS := fun ρ S => (mi ρ S).go ρ fun xs S1 => mLoop g b xs ρ S1
theorem drop_at {α : Type} {xs : List α} {i : Nat} {x : α} {r : List α} (e : xs.drop i = x :: r) : xs[i]? = some x ∧ xs.drop (i + 1) = r := by
  have h1 : (xs.drop i)[0]? = some x := by rw [e]; rfl
  rw [List.getElem?_drop] at h1
  refine ⟨by simpa using h1, ?_⟩
  rw [← List.drop_drop, e]; rfl
theorem pms_for {ts : List Nat} {tg iter : Expr} {body : List Stmt} {mi : MA} {g : MG} {mb : MS} (hp : PassesOwn (model X.prog X.w) X.A X.env X.xe) (hc : X.calm = true) (hi : PIM X W tg iter mi) (hg : PMG X ts tg g) (hb : PMB X W body mb)
    (hs : ∀ x, foldedSetIterable iter X.env x = pure x := by intro _; rfl) : PMS X W (.For tg iter body [] pos) (mFor mi g mb) := by
  refine ps_imp (ps_for hp hc hi hg hb hs) fun D σ H ⟨ι, S, ρ, hl, hr, h⟩ => ?_
  refine ⟨ι, S, ρ, hl, hr, stepS h hl fun xs J ι1 H1 S1 s1 r1 hJ h1 => ?_⟩
  refine ⟨fun i n σ H => ∃ ι S ρ, Sub ι1 H1 ι H ∧ LR X.K ι H ρ σ ∧ Rl X.K ι S H ∧ n = xs.length - i ∧ PostS X.K W ι H D (mLoop g mb (xs.drop i) ρ S), ⟨xs.length, ι1, S1, ρ, Sub.refl _ _, hl.mono s1, r1, rfl, h1⟩, fun i n σ H hW => ?_⟩
  clear hl hr h s1 r1 h1
  obtain ⟨ι, S, ρ, s, hl, hr, hn, h⟩ := hW
  cases e : xs.drop i with
  | nil =>
    rw [e] at h
    have : xs.length ≤ i := by
      have := congrArg List.length e
      simp at this; omega
    exact .inl ⟨(hJ ι H S s hr i).2 this, h _ _ _ (Sub.refl _ _) hr hl⟩
  | cons x r =>
    obtain ⟨e1, e2⟩ := drop_at e
    rw [e] at h
    obtain ⟨go, yl⟩ := (hJ ι H S s hr i).1 x e1
    refine .inr ⟨go, fun σ H => ∃ ι S ρ, Sub ι1 H1 ι H ∧ LR X.K ι H ρ σ ∧ Rl X.K ι S H ∧ PostS X.K W ι H D (mLoop g mb r ρ S), fun σ' H' q => ⟨xs.length - (i + 1), ?_, ?_⟩, fun v H2 hy => ?_⟩
    · have := (List.getElem?_eq_some_iff.mp e1).1
      omega
    · obtain ⟨ι', S', ρ', a, b, c, d⟩ := q
      exact ⟨ι', S', ρ', a, b, c, rfl, by rw [e2]; exact d⟩
    · obtain ⟨r2, s2, hx⟩ := yl v H2 hy
      simp only [mLoop] at h
      cases eg : g S x ρ with
      | none => rw [eg] at h; exact h.elim
      | some ρ1 =>
        rw [eg] at h
        refine ⟨ι, S, ρ, x, ρ1, hl.mono s2, r2, hx, eg, fun σ' l' _ => ⟨ι, S, ρ1, l', r2, ?_⟩⟩
        have h := h.sub s2
        simp only at h
        cases eb : mb ρ1 S with
        | nx ρ' S' => rw [eb] at h; exact fun ι' H' σ' s' r l => ⟨ι', S', ρ', (s.trans s2).trans s', l, r, h.sub s'⟩
        | ct ρ' S' => rw [eb] at h; exact fun ι' H' σ' s' r l => ⟨ι', S', ρ', (s.trans s2).trans s', l, r, h.sub s'⟩
        | bk ρ' S' => rw [eb] at h; exact h
        | rt ρ' S' => rw [eb] at h; exact h
        | exc _ ρ' S' => rw [eb] at h; exact h
        | bad => rw [eb] at h; exact h

/-! ### comprehensions -/
abbrev W0 : WX := fun _ _ _ _ => False
def okP {α : Type} (r : Res α) (k : α → Sg → Prop) : Prop := match r with | .ok x S => k x S | _ => False
theorem stepN {α β γ : Type} {R : Io → Hp → α → β → Prop} {K : PySem.W.Frag} {ι : Io} {σ : L2.St} {H : Hp} {T : β → Hp → Prop} {m : Res α} {f : α → Sg → Res γ} {q : γ → Sg → Prop} (hp : okP (m.bind f) q)
    (k : ∀ x v ι1 H1 S1, Sub ι H ι1 H1 → Rl K ι1 S1 H1 → R ι1 H1 x v → okP (f x S1) q → T v H1) : Post R K W0 ι σ H T m := by
  cases m with
  | ok x S' => exact fun ι' H' v s r x' => k x v ι' H' S' s r x' hp
  | exc e S' => exact hp.elim
  | bad => exact hp
def wipeM (ρ : Rho) : List Nat → Rho
  | [] => ρ
  | v :: vs => (wipeM ρ vs).set v none
def lcLoop (g : MG) (tt : MT) (te : ME) (ρ : Rho) : List Mv → List Mv → Sg → Res (List Mv)
  | [], acc, S => .ok acc S
  | x :: xs, acc, S => match g S x ρ with
    | none => .bad
    | some ρ1 => (tt ρ1 S).bind fun k S1 => if k = true then (te ρ1 S1).bind fun y S2 => if y.free = true ∧ acc.length < sizeLine then lcLoop g tt te ρ xs (acc ++ [y]) S2 else .bad else lcLoop g tt te ρ xs acc S1
def Res.nox {α : Type} : Res α → Res α
  | .exc _ _ => .bad
  | r => r
def mLc (b : Bi) (mi : MA) (g : MG) (tt : MT) (te : ME) (vs : List Nat) : ME := fun ρ S => (mi ρ S).bind fun xs S1 => (lcLoop g tt te (wipeM ρ vs) xs [] S1).nox.bind fun acc S2 => bear b (.lst acc) S2
def PTM (X : Cx) (W : WX) (ifs : List Expr) (m : MT) : Prop := PTs X ifs (tG RB X.K W m)
theorem pts_imp {ifs : List Expr} {t t' : TT} (h : PTs X ifs t) (i : ∀ σ H Q, t' σ H Q → t σ H Q) : PTs X ifs t' := ⟨fun pins s σ H Q I q => h.run pins s σ H Q I (i _ _ _ q)⟩
def mYes : MT := fun _ S => .ok true S
theorem ptm_nil : PTM X W [] mYes := pts_imp pts_nil fun σ H Q ⟨ι, S, ρ, hl, hr, h⟩ => h _ _ _ (Sub.refl _ _) hr rfl
theorem ptm_one {c : Expr} {m : MT} (h : PB X W c m) : PTM X W [c] m := pts_one h
theorem lr_wipe {K : PySem.W.Frag} {ι : Io} {H : Hp} {ρ : Rho} {σ : L2.St} (h : LR K ι H ρ σ) : ∀ vs : List Nat, LR K ι H (wipeM ρ vs) (wipe σ vs)
  | [] => h
  | v :: vs => by
    have ih := lr_wipe h vs
    refine ⟨by simp only [wipeM, wipe, List.length_set]; exact ih.1, fun i x e => ?_⟩
    simp only [wipeM] at e
    simp only [wipe]
    by_cases hi : v = i
    · subst hi
      by_cases hl : v < (wipeM ρ vs).length
      · rw [List.getElem?_set_self hl] at e; cases e
      · rw [List.getElem?_eq_none (by rw [List.length_set]; omega)] at e; cases e
    · rw [List.getElem?_set_ne hi] at e ⊢
      exact ih.2 i x e
theorem wipe_get (σ : L2.St) (i : Nat) : ∀ vs : List Nat, (wipe σ vs)[i]? = if i ∈ vs then (if i < σ.length then some none else none) else σ[i]?
  | [] => by simp [wipe]
  | v :: vs => by
    simp only [wipe]
    by_cases hi : v = i
    · subst hi
      by_cases hl : v < σ.length
      · rw [List.getElem?_set_self (by rw [wipe_length]; exact hl)]; simp [hl]
      · rw [List.getElem?_eq_none (by rw [List.length_set, wipe_length]; omega)]; simp [hl]
    · rw [List.getElem?_set_ne hi, wipe_get σ i vs]
      have : (i ∈ v :: vs) ↔ i ∈ vs := ⟨fun z => (List.mem_cons.mp z).resolve_left fun e => hi e.symm, fun z => List.mem_cons_of_mem _ z⟩
      simp only [this]
theorem wipe_off {σ σ' : L2.St} {ts vs : List Nat} (hs : ∀ t ∈ ts, t ∈ vs) (o : Off ts (wipe σ vs) σ') : wipe σ' vs = wipe σ vs := by
  refine List.ext_getElem? fun i => ?_
  have hl : σ'.length = σ.length := by rw [o.1, wipe_length]
  rw [wipe_get, wipe_get, hl]
  by_cases hi : i ∈ vs
  · simp [hi]
  · rw [if_neg hi, if_neg hi]
    rw [o.2 i (fun z => hi (hs i z)), wipe_get, if_neg hi]
theorem lc_coreM {ts vs : List Nat} {mi : MA} {g : MG} {tt : MT} {te : ME} {b : Bi} {σ : L2.St} {H : Hp} {Q : VK} (hs : ∀ t ∈ ts, t ∈ vs) (h : tG (XV X.K) X.K W (mLc b mi g tt te vs) σ H Q) :
    tLc (tG (ItM X.K) X.K W mi) (fun v σ H Q => ∃ ι S ρ x ρ', LR X.K ι H ρ σ ∧ Rl X.K ι S H ∧ XV X.K ι H x v ∧ g S x ρ = some ρ' ∧ ∀ σ', LR X.K ι H ρ' σ' → Off ts σ σ' → Q σ' H)
      (tG RB X.K W0 tt) (tG (XV X.K) X.K W0 te) vs σ H (Qf b Q) := by
  obtain ⟨ι, S, ρ, hl, hr, h⟩ := h
  refine ⟨ι, S, ρ, hl, hr, step h fun xs J ι1 H1 S1 s1 r1 hJ h1 => ?_⟩
  intro D hD
  -- the loop's end
  have h2 : okP (lcLoop g tt te (wipeM ρ vs) xs [] S1) fun acc S2 => Post (XV X.K) X.K W ι1 σ H1 Q (bear b (.lst acc) S2) := by
    cases e : lcLoop g tt te (wipeM ρ vs) xs [] S1 with
    | ok x S' => rw [e] at h1; exact h1
    | exc x S' => rw [e] at h1; exact h1
    | bad => rw [e] at h1; exact h1
  clear h1
  obtain ⟨rD, sD⟩ := r1.beside (u := .lst []) hD
  have hl1 : LR X.K ι1 H1 (wipeM ρ vs) (wipe σ vs) := lr_wipe (hl.mono s1) vs
  refine ⟨fun i n H => ∃ ι S acc ws, Sub ι1 H1 ι H ∧ Rl X.K ι S H ∧ (∀ q ∈ ι, q.2 ≠ D) ∧ H D = some (.lst ws) ∧ XCs X.K ι H acc ws ∧ n = xs.length - i ∧
      okP (lcLoop g tt te (wipeM ρ vs) (xs.drop i) acc S) fun acc S2 => Post (XV X.K) X.K W ι1 σ H1 Q (bear b (.lst acc) S2),
    ⟨xs.length, ι1, S1, [], [], sD, rD, fun q hq z => r1.live q hq (by rw [z]; exact hD), upd_same, .nil, rfl, h2⟩, fun i n H hW => ?_⟩
  clear hl hr h s1 h2 rD sD
  obtain ⟨ι, S, acc, ws, s, hr, hq, hp, hx, hn, h⟩ := hW
  cases e : xs.drop i with
  | nil =>
    rw [e] at h
    have : xs.length ≤ i := by
      have := congrArg List.length e
      simp at this; omega
    exact .inl ⟨(hJ ι H S s hr i).2 this, bear_lst s hD hr hp hq hx h⟩
  | cons x r =>
    obtain ⟨e1, e2⟩ := drop_at e
    rw [e] at h
    obtain ⟨go, yl⟩ := (hJ ι H S s hr i).1 x e1
    refine .inr ⟨go, fun H => ∃ ι S acc ws, Sub ι1 H1 ι H ∧ Rl X.K ι S H ∧ (∀ q ∈ ι, q.2 ≠ D) ∧ H D = some (.lst ws) ∧ XCs X.K ι H acc ws ∧
      okP (lcLoop g tt te (wipeM ρ vs) r acc S) fun acc S2 => Post (XV X.K) X.K W ι1 σ H1 Q (bear b (.lst acc) S2), fun H' q => ⟨xs.length - (i + 1), ?_, ?_⟩, fun v H2 hy => ?_⟩
    · have := (List.getElem?_eq_some_iff.mp e1).1
      omega
    · obtain ⟨ι', S', a', w', a, b, c, d, f, k⟩ := q
      exact ⟨ι', S', a', w', a, b, c, d, f, rfl, by rw [e2]; exact k⟩
    · obtain ⟨r2, s2, hv⟩ := yl v H2 hy
      simp only [lcLoop] at h
      cases eg : g S x (wipeM ρ vs) with
      | none => rw [eg] at h; exact h.elim
      | some ρ1 =>
        rw [eg] at h
        simp only at h
        have sA := s.trans s2
        have hl2 := hl1.mono sA
        refine ⟨ι, S, wipeM ρ vs, x, ρ1, hl2, r2, hv, eg, fun σ' l' off => ⟨wipe_off hs off, ι, S, ρ1, l', r2, stepN h fun k k' ι3 H3 S3 s3 r3 ek h3 => ?_⟩⟩
        cases ek
        have hp2 := s2.keep D _ hp hq
        have hp3 := s3.keep D _ hp2 hq
        have hq3 : ∀ q ∈ ι3, q.2 ≠ D := fun q hm => by
          obtain ⟨t, rfl, ht⟩ := s3.pre
          rcases List.mem_append.mp hm with hm | hm
          · exact hq q hm
          · exact fun z => by rw [← z, ht q hm] at hp2; cases hp2
        have sB := sA.trans s3
        cases k with
        | false =>
          refine iteF ⟨ι3, S3, acc, ws, sB, r3, hq3, hp3, XCs.mono s3 (XCs.mono s2 hx), by simpa using h3⟩
        | true =>
          rw [if_pos rfl] at h3
          refine iteT ⟨ι3, S3, ρ1, l'.mono s3, r3, stepN h3 fun y v' ι4 H4 S4 s4 r4 hy h4 => ?_⟩
          have hp4 := s4.keep D _ hp3 hq3
          have hq4 : ∀ q ∈ ι4, q.2 ≠ D := fun q hm => by
            obtain ⟨t, rfl, ht⟩ := s4.pre
            rcases List.mem_append.mp hm with hm | hm
            · exact hq3 q hm
            · exact fun z => by rw [← z, ht q hm] at hp3; cases hp3
          by_cases c : y.free = true ∧ acc.length < sizeLine
          · rw [if_pos c] at h4
            have g4 : Grow H4 (upd H4 D (.lst (ws ++ [v']))) := Grow.write hp4 trivial
            have hx4 : XCs X.K ι4 H4 acc ws := XCs.mono s4 (XCs.mono s3 (XCs.mono s2 hx))
            refine ⟨ws, hp4, by rw [← hx.length]; exact c.2, ι4, S4, acc ++ [y], ws ++ [v'], (sB.trans s4).again hD hp4, r4.aside hp4 trivial hq4, hq4, upd_same, ?_, h4⟩
            exact Paired.append (XCs.grown ⟨[], (List.append_nil _).symm⟩ g4 hx4) (.cons ⟨c.1, hy.grown ⟨[], (List.append_nil _).symm⟩ g4⟩ .nil)
          · rw [if_neg c] at h4; exact h4.elim
abbrev tgM (X : Cx) (ts : List Nat) (g : MG) : TG := fun v σ H Q => ∃ ι S ρ x ρ', LR X.K ι H ρ σ ∧ Rl X.K ι S H ∧ XV X.K ι H x v ∧ g S x ρ = some ρ' ∧ ∀ σ', LR X.K ι H ρ' σ' → Off ts σ σ' → Q σ' H
theorem pm_lc {ts vs : List Nat} {elt tg iter : Expr} {ifs : List Expr} {scope : Scope} {own : List (Str × Nat)} {mi : MA} {g : MG} {tt : MT} {te : ME} (b : Bi) (hc : X.calm = true) (hN : X.N.Nodup) (hi : PIM X W tg iter mi) (ok : BlkOk X.N X.env.scope scope own)
    (hg : ∀ (s : Shared) (H : Hp) (C : Addr) (cl : List (Str × Addr)) (fp : List Addr), PMG (X.blk s H scope (compEnvC scope cl C X.env) fp) ts tg g) (ht : ∀ (s : Shared) (H : Hp) (C : Addr) (cl : List (Str × Addr)) (fp : List Addr), PTM (X.blk s H scope (compEnvC scope cl C X.env) fp) W0 ifs tt)
    (he : ∀ (s : Shared) (H : Hp) (C : Addr) (cl : List (Str × Addr)) (fp : List Addr), PM (X.blk s H scope (compEnvC scope cl C X.env) fp) W0 elt te) (hs : ∀ t ∈ ts, t ∈ vs) (hv : own.map (·.2) = vs := by rfl) (hf : ∀ x, foldedSetIterable iter X.env x = pure x := by intro _; rfl) :
    PM X W (.ListComp elt [⟨tg, iter, ifs, 0⟩] scope pos) (mLc b mi g tt te vs) := by
  subst hv
  exact pe_imp (pe_b b (pe_lc (g := tgM X ts g) (tt := tG RB X.K W0 tt) (te := tG (XV X.K) X.K W0 te) hc hN hi ok hg ht he hf)) fun σ H Q h => lc_coreM hs h
/-- name = [..] on one row -/
def Qs (b : Bi) (Q : L2.St → Hp → Prop) : L2.St → Hp → Prop := fun σ H => match b with
  | .frz => Q σ H ∨ ∃ a u, H a = some u ∧ Mut (some u) ∧ ∀ o, Q σ (upd H a (.frz o u))
  | _ => Q σ H
theorem ps_b {st : Stmt} {t : TS} (b : Bi) (h : PS X st t) : PS X st (fun D σ H => t { D with nx := Qs b D.nx } σ H) := by
  cases b with
  | frz =>
    refine ⟨fun pins s σ H D I q => thn (h.run pins s σ H _ I q) fun f s1 q => ?_⟩
    cases f with
    | next =>
      obtain ⟨σ', H', I1, q⟩ := q
      rcases q with q | ⟨a, u, ha, mu, q⟩
      · exact ⟨σ', H', I1, q⟩
      · obtain ⟨od, I2⟩ := I1.lock ha mu
        exact ⟨_, _, I2, q od⟩
    | ret v => exact q
    | brk => exact q
    | cont => exact q
  | ref => exact h
  | own => exact h
theorem pms_setLc {ts vs : List Nat} {i : Nat} {y : Str} {py spos : Pos} {elt tg iter : Expr} {ifs : List Expr} {scope : Scope} {own : List (Str × Nat)} {mi : MA} {g : MG} {tt : MT} {te : ME} (b : Bi) (hc : X.calm = true) (hN : X.N.Nodup) (hy : X.N[i]? = some y) (hyl : X.env.scope.names.lookup y = some .local)
    (hsw : swapsWith (.ListComp elt [⟨tg, iter, ifs, 0⟩] scope pos) (some (.Name y py)) spos.line X.env = pure true) (hi : PIM X W tg iter mi) (ok : BlkOk X.N X.env.scope scope own)
    (hg : ∀ (s : Shared) (H : Hp) (C : Addr) (cl : List (Str × Addr)) (fp : List Addr), PMG (X.blk s H scope (compEnvC scope cl C X.env) fp) ts tg g) (ht : ∀ (s : Shared) (H : Hp) (C : Addr) (cl : List (Str × Addr)) (fp : List Addr), PTM (X.blk s H scope (compEnvC scope cl C X.env) fp) W0 ifs tt)
    (he : ∀ (s : Shared) (H : Hp) (C : Addr) (cl : List (Str × Addr)) (fp : List Addr), PM (X.blk s H scope (compEnvC scope cl C X.env) fp) W0 elt te) (hs : ∀ t ∈ ts, t ∈ vs) (hv : own.map (·.2) = vs := by rfl) (hf : ∀ x, foldedSetIterable iter X.env x = pure x := by intro _; rfl) :
    PMS X W (.Assign [.Name y py] (.ListComp elt [⟨tg, iter, ifs, 0⟩] scope pos) spos) (mAsg (mLc b mi g tt te vs) (mgName i)) := by
  subst hv
  refine ps_imp (ps_b b (ps_setLc (g := tgM X ts g) (tt := tG RB X.K W0 tt) (te := tG (XV X.K) X.K W0 te) hc hN hy hyl hsw hi ok hg ht he hf)) fun D σ H h => ?_
  obtain ⟨ι, S, ρ, hl, hr, h⟩ := h
  have h' : tG (XV X.K) X.K W (mLc b mi g tt te (own.map (·.2))) σ H fun v H1 => D.nx (σ.set i (some v)) H1 :=
    ⟨ι, S, ρ, hl, hr, stepS h hl fun x v ι1 H1 S1 s1 r1 hx h1 => h1 _ _ _ (Sub.refl _ _) r1 ((hl.mono s1).set i hx)⟩
  have h2 := lc_coreM (b := b) hs h'
  show tLc _ _ _ _ _ σ H _
  cases b with
  | ref => exact h2
  | own => exact h2
  | frz =>
    have e : ∀ (v : V) (H1 : Hp), Qf .frz (fun v H1 => D.nx (σ.set i (some v)) H1) v H1 → Qs .frz D.nx (σ.set i (some v)) H1 := by
      rintro v H1 (q | ⟨a, u, rfl, ha, mu, q⟩)
      · exact .inl q
      · exact .inr ⟨a, u, ha, mu, q⟩
    obtain ⟨ι, S, ρ, hl, hr, hp⟩ := h2
    refine ⟨ι, S, ρ, hl, hr, hp.imp fun J H1 q D0 hD => ?_⟩
    obtain ⟨Wv, w0, tn⟩ := q D0 hD
    refine ⟨Wv, w0, fun j m H2 hw => ?_⟩
    rcases tn j m H2 hw with ⟨a, q⟩ | q
    · exact .inl ⟨a, e _ _ q⟩
    · exact .inr q
end
end MM
end
section
set_option Elab.async false
set_option linter.all false
set_option maxRecDepth 100000
set_option maxHeartbeats 4000000
set_option autoImplicit false
namespace MM
open PySem PySem.Spec PyProof.Rows L2

/-! ### the law's own call -/
theorem ints_FDs {K : PySem.W.Frag} {H : Hp} : ∀ ns : List Int, FDs K H (ns.map PyData.int) (ns.map V.int)
  | [] => .nil
  | n :: r => .cons (.int n) (ints_FDs r)
theorem law_end {P : Program} {w : World} {K : PySem.W.Frag} {mg mb : Str → Option Value} {k : Nat} {fa a : Addr} {fd : FuncData} {x : Str} {m : List Mv → Sg → Res Mv} {s0 : Shared} {vs : List Value} {ns : List Int}
    (kin : K.In s0.heap) (gl : s0.heap.Ns mainGlobals mg) (bl : s0.heap.Ns builtinsNs mb) (bb : ∀ y : Str, y ≠ "__name__" → mb y = bootBuiltins y) (lim : s0.heap.NoLimit) (gn : s0.gens = #[])
    (obj : s0.heap.get? a = some { cls := .type "list", data := .seq vs.toArray }) (its : IntsAre vs ns) (few : ns.length ≤ sizeLine) (room : Room k callerA)
    (F : ∀ base : Heap, K.In base → base.Ns mainGlobals mg → FnM P w K mg base k fa fd [x] m) (bnd : ∀ (s : Shared) (u : Value), BindsTo s fd ⟨[u], []⟩ [(x, u)])
    (good : ∃ S', m [.d (.list (ns.map PyData.int))] [] = .ok (.d (.bool true)) S') :
    codeAny (model P w) callerA (.call (.ref fa) ⟨[.ref a], []⟩) (fun r s' => r = .ok (.ret (.bool true)) ∧ OldK s0.heap s'.heap ∧ s'.os = s0.os ∧ AllBare s'.gens) s0 := by
  have rv := vals_ints its
  -- H: nothing is tracked but, perhaps, the script, known to its object
  have main : ∀ H : Hp, (∀ b, H b ≠ none → b = a ∧ K.lookup a = none ∧ ∃ o xs, H b = some (.frz o (.lst xs))) → FzL K H a (ns.map V.int) → HOk P w H s0.heap →
      codeAny (model P w) callerA (.call (.ref fa) ⟨[.ref a], []⟩) (fun r s' => r = .ok (.ret (.bool true)) ∧ OldK s0.heap s'.heap ∧ s'.os = s0.os ∧ AllBare s'.gens) s0 := by
    intro H only script held
    have off : ∀ {b : Addr} {o : Obj} {es : Array DictEntry} {ep : Nat}, s0.heap.get? b = some o → o.data = .dict es ep → H b = none := by
      intro b o es ep e d
      cases q : H b with
      | none => rfl
      | some u =>
        obtain ⟨rfl, _⟩ := only b (by rw [q]; exact fun z => nomatch z)
        rw [obj] at e; cases e; cases d
    have ns' : ∀ {b : Addr} {mm : Str → Option Value}, s0.heap.Ns b mm → (hidT s0.heap H).Ns b mm := fun ⟨o, es, ep, e, d, r⟩ => ⟨o, es, ep, hidT_get e (off e d), d, r⟩
    have kin' : K.In (hidT s0.heap H) := by
      intro b o e
      refine hidT_get (kin b o e) ?_
      cases q : H b with
      | none => rfl
      | some u =>
        obtain ⟨rfl, h2, _⟩ := only b (by rw [q]; exact fun z => nomatch z)
        rw [h2] at e; cases e
    have md : Mod K mg (hidT s0.heap H) := ⟨kin', ns' gl, ⟨mb, ns' bl, bb⟩, let ⟨mc, h1, h2⟩ := lim; ⟨mc, ns' h1, h2⟩⟩
    have ent : Env0 P w K mg (hidT s0.heap H) callerA [] s0 H := ⟨rfl, md, fun b o e => of_hidT e, Nat.le_of_eq (hidT_size _ _), trivial, (fun b hb => nomatch hb), held, .of_eq gn⟩
    obtain ⟨S', hS⟩ := good
    have want : spM K 1 m [.ref a] H (fun v _ => v = .bl true) (fun _ _ _ => False) := by
      refine ⟨[], [], [.d (.list (ns.map PyData.int))], .cons ⟨rfl, .lst script (ints_FDs ns)⟩ .nil, rfl, ⟨rfl, List.nodup_nil, (fun p hp => nomatch hp), (fun i b o p e => by simp at e)⟩, ?_⟩
      rw [hS]
      intro ι' H' v s r hv
      cases hv
      rfl
    refine codeAny_mono ((F _ kin' (ns' gl)).run callerA [] s0 H ⟨[.ref a], []⟩ [.ref a] [.ref a] _ _ room rfl ent (bnd s0 (.ref a)) (.cons rfl .nil) want) fun res s' got => ?_
    cases res with
    | error e => exact let ⟨_, _, _, _, _, _, _, _, _, _, _, _, z⟩ := got; z.elim
    | ok fl =>
      cases fl with
      | next => exact got.elim
      | brk => exact got.elim
      | cont => exact got.elim
      | ret u =>
        obtain ⟨v, H', os, bare, un, held', rel, (rfl : v = .bl true)⟩ := got
        obtain rfl : u = Value.bool true := rel
        refine ⟨rfl, OldK.of_keep fun b o e => ?_, os, bare⟩
        cases q : H b with
        | none => exact un.keep b o e q (fun z => nomatch z) (fun z => nomatch z)
        | some u =>
          obtain ⟨_, _, ob, xs, q2⟩ := only b (by rw [q]; exact fun z => nomatch z)
          have e1 := (held b _ q2).1
          have e2 := (held' b _ (un.frzs b ob _ q2)).1
          rw [e] at e1; cases e1
          exact e2
  cases hk : K.lookup a with
  | some o =>
    have e := kin a o hk
    rw [obj] at e; cases e
    exact main (fun _ => none) (fun b z => absurd rfl z) (.inr ⟨vs.toArray, _, hk, by rw [List.size_toArray, its.length]; exact few, by simpa using rv⟩) (fun b u z => by cases z)
  | none =>
    refine main (fun b => if b = a then some (.frz { cls := .type "list", data := .seq vs.toArray } (.lst (ns.map V.int))) else none) (fun b z => ?_) (.inl ⟨_, if_pos rfl⟩) (fun b u z => ?_)
    · by_cases hb : b = a
      · exact ⟨hb, hk, _, _, if_pos hb⟩
      · exact absurd (if_neg hb) z
    · by_cases hb : b = a
      · subst hb
        have z' := (if_pos rfl).symm.trans z
        cases z'
        exact ⟨obj, by rw [List.length_map]; exact few, vs, _, rv, obj⟩
      · have z' := (if_neg hb).symm.trans z
        cases z'
/-- the goal behind the head -/
theorem walk_end {l : PySem.W.OpenLaw} {n k : Nat} {q : Program} {loose : List Str} {XP : (Str → Option Value) → Heap → Prop} {YP : World → Heap → Prop} {d : DefRec} {K : Params → PySem.W.Frag} {x : Str}
    (hn : l.most = some n) (hn2 : n ≤ sizeLine) (hdf : d.params.defaults = []) (room : Room k callerA)
    (hY : ∀ (w : World) (h : Heap), YP w h → (K w.params).In h)
    (F : ∀ (w : World) (mg : Str → Option Value) (fa : Addr) (h : Heap), (K w.params).In h → h.Ns mainGlobals mg → mg d.name = some (.ref fa) →
      ∃ (fd : FuncData) (m : List Mv → Sg → Res Mv), (∀ (s : Shared) (u : Value), BindsTo s fd ⟨[u], []⟩ [(x, u)]) ∧
        (∀ base : Heap, (K w.params).In base → base.Ns mainGlobals mg → FnM l.prog w (K w.params) mg base k fa fd [x] m) ∧
        ∀ ns : List Int, ns.length ≤ n → ∃ S', m [.d (.list (ns.map PyData.int))] [] = .ok (.d (.bool true)) S') :
    PySem.W.WalkO q loose XP YP l.row.toRowW d [] (fun f vs => PySem.call f vs) := by
  refine Att.attach_call hn hdf fun w s0 s1 mg mb fa o pm cd doc a vs ns G Y ho hd hcd hmg obj its few gn => ?_
  have kin := hY w _ Y
  obtain ⟨fd, m, bnd, hF, good⟩ := F w mg fa _ kin G.T.g hmg
  exact law_end kin G.T.g G.T.b G.T.builtins G.T.nolimit gn obj its (Nat.le_trans few hn2) room hF bnd (good ns few)
end MM
end
section
set_option Elab.async false
set_option linter.all false
set_option maxRecDepth 100000
set_option maxHeartbeats 4000000
set_option autoImplicit false
namespace MM
open PySem PySem.Spec PyProof.Rows L2

/-! ### operators by values -/
section
variable {X : Cx} {W : WX}
theorem OpR.or2 {f : Value → Value → Sem Value} {r r' : R2} (h : OpR X f r) (h' : OpR X f r') : OpR X f (fun x y H Q => r x y H Q ∨ r' x y H Q) := fun pins s σ H x y v u Q I rx ry q => by
  rcases q with q | q
  · exact h pins s σ H x y v u Q I rx ry q
  · exact h' pins s σ H x y v u Q I rx ry q
/-- lists of any kind, one behind the other -/
def rCatL (K : PySem.W.Frag) : R2 := fun x y H Q => ∃ l b xs zs, x = .ref l ∧ y = .ref b ∧ SqL K H l xs ∧ SqL K H b zs ∧ xs.length + zs.length ≤ sizeLine ∧ ∀ p, H p = none → Q (.ref p) (upd H p (.lst (xs ++ zs)))
theorem op_catL : OpR X (binaryOp .Add) (rCatL X.K) := by
  intro pins s σ H x y v u Q I rx ry h
  obtain ⟨l, b, xs, zs, rfl, rfl, h1, h2, hz, q⟩ := h
  cases rx
  cases ry
  obtain ⟨its, r1, ⟨⟨cls, dd, data, sl⟩, n, e1, c1, d1, t1⟩, z1⟩ := I.list h1
  obtain ⟨its2, r2, ⟨⟨cls2, dd2, data2, sl2⟩, n2, e2, c2, d2, t2⟩, z2⟩ := I.list h2
  simp only at c1 d1 t1 c2 d2 t2
  subst c1 d1 t1 c2 d2 t2
  have la := r1.length
  have lb := r2.length
  refine concat_meets ⟨_, e1, rfl⟩ ⟨_, e2, rfl⟩ noFill_list_add seq_list_add PySem.F.slot_list_add PySem.F.entry_list_add (PySem.F.args_list_add_2 _ _) (PyProof.Rows.list_addW l b its.toArray its2.toArray n n2 none none sl sl2 (by simp; omega)) ⟨e1, e2, ?_⟩
  have ea : its.toArray ++ its2.toArray = (its ++ its2).toArray := by simp
  rw [ea]
  have hf : H s.heap.objs.size = none := I.hok.fresh (Nat.le_refl _)
  refine ⟨.ref s.heap.objs.size, upd H s.heap.objs.size (.lst (xs ++ zs)), I.laid (t' := s.toks) (fun b u e => Heap.get?_push_of_some _ e) (Nat.le_refl _) ?_, rfl, q _ hf⟩
  exact ⟨by rw [List.length_append]; exact hz, its ++ its2, 0, r1.append r2, Heap.get?_push_size _ rfl⟩

def Mv.isList (S : Sg) (x : Mv) : Option (List Mv) := match x.seq S with | some (false, xs) => some xs | _ => none
theorem Mv.isList_ok {K : PySem.W.Frag} {ι : Io} {S : Sg} {H : Hp} (hr : Rl K ι S H) {x : Mv} {v : V} (hx : XV K ι H x v) {xs : List Mv} (e : x.isList S = some xs) : ∃ a vs, v = .ref a ∧ PlnL K H a vs ∧ XCs K ι H xs vs := by
  unfold Mv.isList at e
  cases e1 : x.seq S with
  | none => rw [e1] at e; cases e
  | some p =>
    obtain ⟨t, ys⟩ := p
    rw [e1] at e
    cases t with
    | true => cases e
    | false =>
      cases e
      obtain ⟨a, vs, h1, h2, h3⟩ := Mv.seq_ok hr hx e1
      exact ⟨a, vs, h1, h2, h3⟩
def gAdd : Sg → Mv → Mv → Option Nw := fun S x y => match x, y with
  | .d (.int i), .d (.int j) => some (.val (.d (.int (i + j))))
  | .d (.str a), .d (.str b) => if a.length + b.length ≤ sizeLine then some (.val (.d (.str (a ++ b)))) else none
  | x, y => match x.isList S, y.isList S with
    | some xs, some ys => if xs.length + ys.length ≤ sizeLine then some (.lst (xs ++ ys)) else none
    | _, _ => none
theorem cat_case {K : PySem.W.Frag} {ι : Io} {S : Sg} {H : Hp} {Q : VK} {x y : Mv} {v u : V} {z : Nw} (hr : Rl K ι S H) (hx : XV K ι H x v) (hy : XV K ι H y u)
    (e : (match x.isList S, y.isList S with | some xs, some ys => if xs.length + ys.length ≤ sizeLine then some (Nw.lst (xs ++ ys)) else none | _, _ => none) = some z) (q : Raw K ι H Q z) : rCatL K v u H Q := by
  cases e1 : x.isList S with
  | none => rw [e1] at e; cases e
  | some xs =>
    cases e2 : y.isList S with
    | none => rw [e1, e2] at e; cases e
    | some ys =>
      rw [e1, e2] at e
      simp only at e
      by_cases c : xs.length + ys.length ≤ sizeLine
      · rw [if_pos c] at e
        cases e
        obtain ⟨a, vs, rfl, s1, p1⟩ := Mv.isList_ok hr hx e1
        obtain ⟨b, ws, rfl, s2, p2⟩ := Mv.isList_ok hr hy e2
        exact ⟨a, b, vs, ws, rfl, rfl, s1.sq, s2.sq, by rw [← p1.length, ← p2.length]; exact c, fun p hp => q _ p (Paired.append p1 p2) hp⟩
      · rw [if_neg c] at e; cases e
theorem o_add : OpP X (binaryOp .Add) gAdd := by
  refine OpR.imp (OpR.or2 op_add (OpR.or2 op_add_str op_catL)) fun v u H Q ⟨ι, S, x, y, z, hr, hx, hy, e, q⟩ => ?_
  unfold gAdd at e
  split at e
  · cases e; cases hx; cases hy
    exact .inl ⟨_, _, rfl, rfl, q _ (.int _)⟩
  · cases hx; cases hy
    split at e
    · rename_i c
      cases e
      exact .inr (.inl ⟨_, _, rfl, rfl, c, q _ (.str _)⟩)
    · cases e
  · exact .inr (.inr (cat_case hr hx hy e q))
def gSub : Sg → Mv → Mv → Option Nw := fun _ x y => match x, y with
  | .d (.int i), .d (.int j) => some (.val (.d (.int (i - j))))
  | _, _ => none
theorem o_sub : OpP X (binaryOp .Sub) gSub := by
  refine OpR.imp op_sub fun v u H Q ⟨ι, S, x, y, z, hr, hx, hy, e, q⟩ => ?_
  unfold gSub at e
  split at e
  · cases e; cases hx; cases hy
    exact ⟨_, _, rfl, rfl, q _ (.int _)⟩
  · cases e
/-- a text so many times -/
def strRep (x : Str) (n : Nat) : Str := ⟨(List.replicate n x.cps.toList).flatten.toArray⟩
theorem strRep_length (x : Str) (n : Nat) : (strRep x n).length = n * x.length := by
  unfold strRep Str.length
  simp [List.length_flatten]
theorem foldl_cat (a : Array Nat) : ∀ (n : Nat) (acc : Array Nat), (List.replicate n a).foldl (· ++ ·) acc = acc ++ (List.replicate n a.toList).flatten.toArray
  | 0, acc => by simp
  | n + 1, acc => by
    rw [List.replicate_succ, List.foldl_cons, foldl_cat a n, List.replicate_succ, List.flatten_cons]
    apply Array.ext'
    simp [Array.toList_append, List.append_assoc]
def rRepS : R2 := fun x y H Q => ∃ (z : Str) (n : Int), x = .str z ∧ y = .int n ∧ -(2 ^ 63) ≤ n ∧ n < 2 ^ 63 ∧ z.length * n.toNat ≤ sizeLine ∧ Q (.str (strRep z n.toNat)) H
theorem op_repS : OpR X (binaryOp .Mult) rRepS := by
  intro pins s σ H x y v u Q I rx ry h
  obtain ⟨z, n, rfl, rfl, h1, h2, hz, q⟩ := h
  obtain ⟨t, rfl⟩ := rx
  obtain ⟨t', rfl⟩ := ry
  have hsl : sizeLine = 16777216 := sizeLine_eq
  refine PySem.P.mul_str (by rw [decide_eq_false (by omega), decide_eq_false (by omega)]; rfl) (fun c1 c2 => ?_) (fun c1 c2 => ?_) ?_
  · intro c3
    simp only [Bool.or_eq_false_iff, beq_eq_false_iff_ne, ne_eq] at c2
    have hn : (0 : Int) < n := by omega
    have h3 : (z.length : Int) * n ≤ 16777216 := by
      have : ((z.length * n.toNat : Nat) : Int) ≤ 16777216 := by omega
      rw [Int.natCast_mul, Int.toNat_of_nonneg (by omega)] at this
      exact this
    have h4 : (z.length : Int) ≤ (2 ^ 63 - 1) / n := (Int.le_ediv_iff_mul_le hn).mpr (by omega)
    omega
  · unfold Builtin.Str.tooLong
    exact decide_eq_false (by omega)
  · by_cases c1 : n < 1
    · rw [if_pos c1]
      have e0 : n.toNat = 0 := by omega
      have e : strRep z n.toNat = Str.empty := by rw [e0]; rfl
      rw [e] at q
      exact ⟨Nat.zero_le _, .str _, H, I.tok _, ⟨_, rfl⟩, q⟩
    · rw [if_neg c1]
      by_cases c2 : (n == 1 || z.length == 0) = true
      · rw [if_pos c2]
        have e : strRep z n.toNat = z := by
          rcases Bool.or_eq_true_iff.mp c2 with c | c
          · have : n = 1 := by simpa using c
            subst this
            unfold strRep
            show (⟨(List.replicate 1 z.cps.toList).flatten.toArray⟩ : Str) = z
            simp
          · have c' : z.length = 0 := by simpa using c
            have : z.cps = #[] := Array.eq_empty_of_size_eq_zero c'
            unfold strRep
            obtain ⟨cps⟩ := z
            simp only at this
            subst this
            simp
        rw [e] at q
        exact ⟨.str _, H, I, ⟨t, rfl⟩, q⟩
      · rw [if_neg c2, foldl_cat]
        have e : (⟨#[] ++ (List.replicate n.toNat z.cps.toList).flatten.toArray⟩ : Str) = strRep z n.toNat := by unfold strRep; simp
        rw [e]
        exact ⟨by rw [strRep_length, Nat.mul_comm]; exact hz, .str _, H, I.tok _, ⟨_, rfl⟩, q⟩
def gMul : Sg → Mv → Mv → Option Nw := fun _ x y => match x, y with
  | .d (.int i), .d (.int j) => if (-(2 ^ 64) < i ∧ i < 2 ^ 64) ∨ (-(2 ^ 64) < j ∧ j < 2 ^ 64) then some (.val (.d (.int (i * j)))) else none
  | .d (.str z), .d (.int n) => if -(2 ^ 63) ≤ n ∧ n < 2 ^ 63 ∧ z.length * n.toNat ≤ sizeLine then some (.val (.d (.str (strRep z n.toNat)))) else none
  | _, _ => none
theorem o_mul : OpP X (binaryOp .Mult) gMul := by
  refine OpR.imp (OpR.or2 op_mul op_repS) fun v u H Q ⟨ι, S, x, y, z, hr, hx, hy, e, q⟩ => ?_
  unfold gMul at e
  split at e
  · split at e
    · rename_i c
      cases e; cases hx; cases hy
      exact .inl ⟨_, _, rfl, rfl, c, q _ (.int _)⟩
    · cases e
  · split at e
    · rename_i c
      cases e; cases hx; cases hy
      exact .inr ⟨_, _, rfl, rfl, c.1, c.2.1, c.2.2, q _ (.str _)⟩
    · cases e
  · cases e
def gMod : Sg → Mv → Mv → Option Nw := fun _ x y => match x, y with
  | .d (.int i), .d (.int j) => if 0 < j then some (.val (.d (.int (i % j)))) else none
  | _, _ => none
theorem o_mod : OpP X (binaryOp .Mod) gMod := by
  refine OpR.imp op_mod fun v u H Q ⟨ι, S, x, y, z, hr, hx, hy, e, q⟩ => ?_
  unfold gMod at e
  split at e
  · split at e
    · rename_i c
      cases e; cases hx; cases hy
      exact ⟨_, _, rfl, rfl, c, q _ (.int _)⟩
    · cases e
  · cases e
def gFdiv : Sg → Mv → Mv → Option Nw := fun _ x y => match x, y with
  | .d (.int i), .d (.int j) => if 0 < j ∧ j < 2 ^ 64 then some (.val (.d (.int (i / j)))) else none
  | _, _ => none
theorem o_fdiv : OpP X (binaryOp .FloorDiv) gFdiv := by
  refine OpR.imp op_fdivW fun v u H Q ⟨ι, S, x, y, z, hr, hx, hy, e, q⟩ => ?_
  unfold gFdiv at e
  split at e
  · split at e
    · rename_i i j c
      cases e; cases hx; cases hy
      exact ⟨_, _, rfl, rfl, wide_div (b := 64) c.1 (by omega) (by decide) (by decide), q _ (.int _)⟩
    · cases e
  · cases e
def gPow : Sg → Mv → Mv → Option Nw := fun _ x y => match x, y with
  | .d (.int i), .d (.int j) => if 0 ≤ j ∧ j ≤ 1000000 ∧ i.natAbs < 2 ^ 64 then some (.val (.d (.int (i ^ j.toNat)))) else none
  | _, _ => none
theorem o_pow : OpP X (binaryOp .Pow) gPow := by
  refine OpR.imp op_pow fun v u H Q ⟨ι, S, x, y, z, hr, hx, hy, e, q⟩ => ?_
  unfold gPow at e
  split at e
  · split at e
    · rename_i c
      cases e; cases hx; cases hy
      exact ⟨_, _, rfl, rfl, c, q _ (.int _)⟩
    · cases e
  · cases e

/-! ### comparisons -/
def gIntB (f : Int → Int → Bool) : Sg → Mv → Mv → Option Nw := fun _ x y => match x, y with
  | .d (.int i), .d (.int j) => some (.val (.d (.bool (f i j))))
  | _, _ => none
theorem o_intB {op : CmpOp} {f : Int → Int → Bool} (h : OpR X (compareOp op) (rI0 fun i j => .bl (f i j))) : OpP X (compareOp op) (gIntB f) := by
  refine OpR.imp h fun v u H Q ⟨ι, S, x, y, z, hr, hx, hy, e, q⟩ => ?_
  unfold gIntB at e
  split at e
  · cases e; cases hx; cases hy
    exact ⟨_, _, rfl, rfl, q _ (.bl _)⟩
  · cases e
abbrev gLt := gIntB fun i j => decide (i < j)
abbrev gLe := gIntB fun i j => decide (i ≤ j)
abbrev gGt := gIntB fun i j => decide (j < i)
abbrev gGe := gIntB fun i j => decide (j ≤ i)
theorem o_lt : OpP X (compareOp .Lt) gLt := o_intB op_lt
theorem o_le : OpP X (compareOp .LtE) gLe := o_intB op_le
theorem o_gt : OpP X (compareOp .Gt) gGt := o_intB op_gt
theorem o_ge : OpP X (compareOp .GtE) gGe := o_intB op_ge
/-- what a value is as data, a list of the store by its items -/
def Mv.data (S : Sg) (x : Mv) : Option PyData := match x with
  | .d x => some x
  | x => match x.seq S with
    | some (false, xs) => (allD xs).map .list
    | some (true, xs) => (allD xs).map .tuple
    | none => none
mutual
theorem FD.dp {K : PySem.W.Frag} {H : Hp} : ∀ {d : PyData} {v : V}, FD K H d v → d.hasDict = false → Dp K H v d
  | _, _, .non, _ => .non
  | _, _, .bl b, _ => .bl b
  | _, _, .int i, _ => .int i
  | _, _, .str x, _ => .str x
  | _, _, .lst h hs, e => .lst h.sq (FDs.dp hs (by simpa [PyData.hasDict] using e))
  | _, _, .tup h hs, e => .tup h (FDs.dp hs (by simpa [PyData.hasDict] using e))
  | _, _, .dct _ _, e => by simp [PyData.hasDict] at e
theorem FDs.dp {K : PySem.W.Frag} {H : Hp} : ∀ {ds : List PyData} {vs : List V}, FDs K H ds vs → PyData.hasDictAll ds = false → DpAll K H vs ds
  | _, _, .nil, _ => .nil
  | _, _, .cons h hs, e => by
    simp only [PyData.hasDictAll, Bool.or_eq_false_iff] at e
    exact .cons (FD.dp h e.1) (FDs.dp hs e.2)
end
theorem noDict_of_shaped {d : PyData} (h : SeqAt.shaped d = true) : d.hasDict = false := PyData.hasDict_of_canLay d (SeqAt.canLay_of_shaped h)
theorem Mv.data_ok {K : PySem.W.Frag} {ι : Io} {S : Sg} {H : Hp} (hr : Rl K ι S H) {x : Mv} {v : V} (hx : XV K ι H x v) {d : PyData} (e : x.data S = some d) (hs : SeqAt.shaped d = true) : Dp K H v d := by
  have hd := noDict_of_shaped hs
  have sq : ∀ t xs, x.seq S = some (t, xs) → (∀ ds, allD xs = some ds → d = (if t = true then .tuple ds else .list ds) → Dp K H v d) := by
    intro t xs e1 ds e2 e3
    obtain ⟨a, vs, rfl, h1, h2⟩ := Mv.seq_ok hr hx e1
    have p := allD_FDs h2 e2
    subst e3
    cases t with
    | true => exact .tup h1 (FDs.dp p (by simpa [PyData.hasDict] using hd))
    | false => exact .lst (PlnL.sq h1) (FDs.dp p (by simpa [PyData.hasDict] using hd))
  cases x with
  | d y => cases e; exact FD.dp hx hd
  | _ =>
    simp only [Mv.data] at e
    split at e
    · rename_i xs e1
      obtain ⟨ds, e2, e3⟩ := Option.map_eq_some_iff.mp e
      exact sq _ _ e1 ds e2 e3.symm
    · rename_i xs e1
      obtain ⟨ds, e2, e3⟩ := Option.map_eq_some_iff.mp e
      exact sq _ _ e1 ds e2 e3.symm
    · cases e
def gEqN (neg : Bool) : Sg → Mv → Mv → Option Nw := fun S x y => match x.data S, y.data S with
  | some d, some e => if SeqAt.shaped d = true ∧ SeqAt.shaped e = true then some (.val (.d (.bool (if neg then !PyData.eqv d e else PyData.eqv d e)))) else none
  | _, _ => none
theorem eqN_case {K : PySem.W.Frag} {neg : Bool} {ι : Io} {S : Sg} {H : Hp} {Q : VK} {x y : Mv} {v u : V} {z : Nw} (hr : Rl K ι S H) (hx : XV K ι H x v) (hy : XV K ι H y u) (e : gEqN neg S x y = some z) (q : Raw K ι H Q z) :
    ∃ d e, Dp K H v d ∧ Dp K H u e ∧ SeqAt.shaped d = true ∧ SeqAt.shaped e = true ∧ Q (.bl (if neg then !PyData.eqv d e else PyData.eqv d e)) H := by
  unfold gEqN at e
  cases e1 : x.data S with
  | none => rw [e1] at e; cases e
  | some d =>
    cases e2 : y.data S with
    | none => rw [e1, e2] at e; cases e
    | some d' =>
      rw [e1, e2] at e
      simp only at e
      by_cases c : SeqAt.shaped d = true ∧ SeqAt.shaped d' = true
      · rw [if_pos c] at e
        cases e
        exact ⟨d, d', Mv.data_ok hr hx e1 c.1, Mv.data_ok hr hy e2 c.2, c.1, c.2, q _ (.bl _)⟩
      · rw [if_neg c] at e; cases e
theorem o_eq (hu : X.A.units + 64 < cLine) : OpP X (compareOp .Eq) (gEqN false) := OpR.imp (op_eqD hu) fun v u H Q ⟨ι, S, x, y, z, hr, hx, hy, e, q⟩ => eqN_case (neg := false) hr hx hy e q
theorem o_ne (hu : X.A.units + 64 < cLine) : OpP X (compareOp .NotEq) (gEqN true) := OpR.imp (op_neD hu) fun v u H Q ⟨ι, S, x, y, z, hr, hx, hy, e, q⟩ => eqN_case (neg := true) hr hx hy e q
/-- in, not in: of a text, of a list -/
def inStr (i j : Str) : Bool := !(Builtin.Str.occurrences j i 0 j.length 1).isEmpty
def gInN (neg : Bool) : Sg → Mv → Mv → Option Nw := fun S x y => match x, y with
  | .d (.str i), .d (.str j) => some (.val (.d (.bool (if neg then !inStr i j else inStr i j))))
  | x, y => match x.data S, y.data S with
    | some d, some (.list ds) => if SeqAt.shaped d = true ∧ SeqAt.shaped (.list ds) = true then some (.val (.d (.bool (if neg then !ds.any (fun z => PyData.eqv z d) else ds.any (fun z => PyData.eqv z d))))) else none
    | _, _ => none
theorem inN_case {K : PySem.W.Frag} {neg : Bool} {ι : Io} {S : Sg} {H : Hp} {Q : VK} {x y : Mv} {v u : V} {z : Nw} (hr : Rl K ι S H) (hx : XV K ι H x v) (hy : XV K ι H y u) (e : gInN neg S x y = some z) (q : Raw K ι H Q z) :
    (∃ i j, v = .str i ∧ u = .str j ∧ Q (.bl (if neg then !inStr i j else inStr i j)) H) ∨
      ∃ d ds, Dp K H v d ∧ Dp K H u (.list ds) ∧ SeqAt.shaped d = true ∧ SeqAt.shaped (.list ds) = true ∧ Q (.bl (if neg then !ds.any (fun z => PyData.eqv z d) else ds.any (fun z => PyData.eqv z d))) H := by
  unfold gInN at e
  split at e
  · cases e; cases hx; cases hy
    exact .inl ⟨_, _, rfl, rfl, q _ (.bl _)⟩
  · split at e
    · rename_i d ds e1 e2
      split at e
      · rename_i c
        cases e
        exact .inr ⟨d, ds, Mv.data_ok hr hx e1 c.1, Mv.data_ok hr hy e2 c.2, c.1, c.2, q _ (.bl _)⟩
      · cases e
    · cases e
theorem o_in (hu : X.A.units + 65 < cLine) : OpP X (compareOp .In) (gInN false) := OpR.imp (OpR.or2 op_in_str (op_inD hu)) fun v u H Q ⟨ι, S, x, y, z, hr, hx, hy, e, q⟩ => inN_case (neg := false) hr hx hy e q
theorem o_notIn (hu : X.A.units + 65 < cLine) : OpP X (compareOp .NotIn) (gInN true) := by
  refine OpR.imp (OpR.or2 op_notin_str (op_notInD hu)) fun v u H Q ⟨ι, S, x, y, z, hr, hx, hy, e, q⟩ => ?_
  rcases inN_case (neg := true) hr hx hy e q with ⟨i, j, h1, h2, h3⟩ | h
  · refine .inl ⟨i, j, h1, h2, ?_⟩
    have h4 : Q (.bl (!inStr i j)) H := h3
    simpa [inStr] using h4
  · exact .inr h
/-- is, is not: none, truths -/
def gIsN (neg : Bool) : Sg → Mv → Mv → Option Nw := fun _ x y => match x, y with
  | .d x, .d .none => some (.val (.d (.bool (match x with | .none => !neg | _ => neg))))
  | .ref _, .d .none => some (.val (.d (.bool neg)))
  | .d (.bool a), .d (.bool b) => some (.val (.d (.bool (if neg then !decide (a = b) else decide (a = b)))))
  | _, _ => none
theorem isN_case {K : PySem.W.Frag} {neg : Bool} {ι : Io} {S : Sg} {H : Hp} {Q : VK} {x y : Mv} {v u : V} {z : Nw} (hx : XV K ι H x v) (hy : XV K ι H y u) (e : gIsN neg S x y = some z) (q : Raw K ι H Q z) :
    (u = .non ∧ Q (.bl (if neg then !decide (v = .non) else decide (v = .non))) H) ∨ ∃ a b, v = .bl a ∧ u = .bl b ∧ Q (.bl (if neg then !decide (a = b) else decide (a = b))) H := by
  unfold gIsN at e
  split at e
  · cases e; cases hy
    refine .inl ⟨rfl, ?_⟩
    have q := q _ (.bl _)
    cases neg <;> cases hx <;> simpa using q
  · cases e; cases hy
    obtain ⟨a, _, rfl⟩ := hx
    refine .inl ⟨rfl, ?_⟩
    have q := q _ (.bl _)
    cases neg <;> simpa using q
  · cases e; cases hx; cases hy
    exact .inr ⟨_, _, rfl, rfl, q _ (.bl _)⟩
  · cases e
theorem o_is : OpP X (compareOp .Is) (gIsN false) := OpR.imp (OpR.or2 op_isN op_is_bl) fun v u H Q ⟨ι, S, x, y, z, hr, hx, hy, e, q⟩ => isN_case (neg := false) hx hy e q
theorem o_isnot : OpP X (compareOp .IsNot) (gIsN true) := OpR.imp (OpR.or2 op_notN op_isnot_bl) fun v u H Q ⟨ι, S, x, y, z, hr, hx, hy, e, q⟩ => isN_case (neg := true) hx hy e q
end
end MM
end
section
set_option Elab.async false
set_option linter.all false
set_option maxRecDepth 100000
set_option maxHeartbeats 4000000
set_option autoImplicit false
namespace MM
open PySem PySem.Spec PyProof.Rows L2

/-! ### built-ins by name -/
section
variable {X : Cx} {W : WX}
def CallP (X : Cx) (f : Value) (g : Sg → List Mv → Option Nw) : Prop :=
  CallR X f fun vs H Q => ∃ ι S xs z, Rl X.K ι S H ∧ XVs X.K ι H xs vs ∧ g S xs = some z ∧ Raw X.K ι H Q z
theorem CallR.imp {f : Value} {r r' : List V → Hp → VK → Prop} (h : CallR X f r) (i : ∀ x H Q, r' x H Q → r x H Q) : CallR X f r' := fun pins s σ H xs us Q I rx q => h pins s σ H xs us Q I rx (i _ _ _ q)
theorem CallR.or2 {f : Value} {r r' : List V → Hp → VK → Prop} (h : CallR X f r) (h' : CallR X f r') : CallR X f (fun x H Q => r x H Q ∨ r' x H Q) := fun pins s σ H xs us Q I rx q => by
  rcases q with q | q
  · exact h pins s σ H xs us Q I rx q
  · exact h' pins s σ H xs us Q I rx q
def mCB (b : Bi) (g : Sg → List Mv → Option Nw) (a : MA) : ME := fun ρ S => (a ρ S).bind fun xs S1 => opt (g S1 xs) fun z => bear b z S1
theorem cb_core {g : Sg → List Mv → Option Nw} {ma : MA} {b : Bi} {σ : L2.St} {H : Hp} {Q : VK} (h : tG (XV X.K) X.K W (mCB b g ma) σ H Q) :
    tCB (fun vs H Q => ∃ ι S xs z, Rl X.K ι S H ∧ XVs X.K ι H xs vs ∧ g S xs = some z ∧ Raw X.K ι H Q z) (tG (XVs X.K) X.K W ma) σ H (Qf b Q) := by
  obtain ⟨ι, S, ρ, hl, hr, h⟩ := h
  refine ⟨ι, S, ρ, hl, hr, step h fun xs vs ι1 H1 S1 s1 r1 hx h1 => ?_⟩
  unfold opt at h1
  cases e : g S1 xs with
  | none => rw [e] at h1; exact h1.elim
  | some z =>
    rw [e] at h1
    exact ⟨ι1, S1, xs, z, r1, hx, e, bear_raw r1 h1⟩
theorem pm_callB {x : Str} {id : String} {g : Sg → List Mv → Option Nw} {ma : MA} {e : Expr} {es : List Expr} {p pos : Pos} (b : Bi) (hc : CallP X (.builtin id) g) (hg : Gl X x) (hm : X.mg x = none) (hv : bootBuiltins x = some (.builtin id)) (ha : PL X W (e :: es) ma) (hn : x ≠ "__name__" := by decide) (hdb : (x == ("__debug__" : Str)) = false := by decide)
    (he : starEach (e :: es) X.env = (false, eval e X.env) :: starEach es X.env := by rfl) (hpl : (backTo pos (starEach es X.env)).any (·.1) = false := by rfl) : PM X W (.Call (.Name x p) (e :: es) [] pos) (mCB b g ma) :=
  pe_imp (pe_b b (pe_callB hc hg hm hv ha hn hdb he hpl)) fun σ H Q h => cb_core h
theorem pm_callTy {x : Str} {T : String} {g : Sg → List Mv → Option Nw} {ma : MA} {e : Expr} {es : List Expr} {p pos : Pos} (b : Bi) (hc : CallP X (.type T) g) (hg : Gl X x) (hm : X.mg x = none) (hv : bootBuiltins x = some (.type T)) (ha : PL X W (e :: es) ma) (hn : x ≠ "__name__" := by decide) (hdb : (x == ("__debug__" : Str)) = false := by decide)
    (he : starEach (e :: es) X.env = (false, eval e X.env) :: starEach es X.env := by rfl) (hpl : (backTo pos (starEach es X.env)).any (·.1) = false := by rfl) : PM X W (.Call (.Name x p) (e :: es) [] pos) (mCB b g ma) :=
  pe_imp (pe_b b (pe_callTy hc hg hm hv ha hn hdb he hpl)) fun σ H Q h => cb_core h
/-- a built-in class as a value -/
theorem pm_ty {x : Str} {T : String} {pos : Pos} (hg : Gl X x) (hm : X.mg x = none) (hv : bootBuiltins x = some (.type T)) (hn : x ≠ "__name__" := by decide) (hd : (x == ("__debug__" : Str)) = false := by decide) : PM X W (.Name x pos) (mK (.ty T)) :=
  pe_imp (pe_bltn (v := .ty T) hg hm hv rfl hn hd) fun σ H Q ⟨ι, S, ρ, hl, hr, h⟩ => h _ _ _ (Sub.refl _ _) hr rfl
theorem one_of {K : PySem.W.Frag} {ι : Io} {H : Hp} {x : Mv} {vs : List V} (h : XVs K ι H [x] vs) : ∃ v, vs = [v] ∧ XV K ι H x v := by
  cases h with | cons r t => cases t; exact ⟨_, rfl, r⟩
theorem two_of {K : PySem.W.Frag} {ι : Io} {H : Hp} {x y : Mv} {vs : List V} (h : XVs K ι H [x, y] vs) : ∃ v u, vs = [v, u] ∧ XV K ι H x v ∧ XV K ι H y u := by
  cases h with | cons r t => obtain ⟨u, rfl, q⟩ := one_of t; exact ⟨_, u, rfl, r, q⟩

/-- len -/
def Mv.len (S : Sg) (x : Mv) : Option Nat := match x with
  | .d (.str z) => if z.length ≤ sizeLine then some z.length else none
  | x => (x.seq S).map fun q => q.2.length
theorem Mv.len_ok {K : PySem.W.Frag} {ι : Io} {S : Sg} {H : Hp} (hr : Rl K ι S H) {x : Mv} {v : V} (hx : XV K ι H x v) {n : Nat} (e : x.len S = some n) : LenV K v H n := by
  have sq : ∀ t xs, x.seq S = some (t, xs) → n = xs.length → LenV K v H n := by
    intro t xs e1 e2
    obtain ⟨a, vs, rfl, h1, h2⟩ := Mv.seq_ok hr hx e1
    cases t with
    | true => exact .inr ⟨vs, h1, by rw [e2, h2.length]⟩
    | false => exact .inl ⟨vs, PlnL.sq h1, by rw [e2, h2.length]⟩
  unfold Mv.len at e
  split at e
  · split at e
    · cases e; cases hx
      exact ⟨by assumption, rfl⟩
    · cases e
  · obtain ⟨⟨t, xs⟩, e1, e2⟩ := Option.map_eq_some_iff.mp e
    exact sq t xs e1 e2.symm
def gLen : Sg → List Mv → Option Nw := fun S xs => match xs with
  | [x] => (x.len S).map fun n : Nat => .val (.d (.int n))
  | _ => none
theorem c_len : CallP X (.builtin "len") gLen := by
  refine CallR.imp call_len fun vs H Q ⟨ι, S, xs, z, hr, hx, e, q⟩ => ?_
  unfold gLen at e
  split at e
  · obtain ⟨n, e1, rfl⟩ := Option.map_eq_some_iff.mp e
    obtain ⟨v, rfl, h⟩ := one_of hx
    exact ⟨v, n, rfl, Mv.len_ok hr h e1, q _ (.int _)⟩
  · cases e
/-- lists of truths, of whole numbers, of texts -/
def boolsM : List Mv → Option (List Bool)
  | [] => some []
  | .d (.bool b) :: r => (boolsM r).map (b :: ·)
  | _ :: _ => none
def intsM : List Mv → Option (List Int)
  | [] => some []
  | .d (.int b) :: r => (intsM r).map (b :: ·)
  | _ :: _ => none
def strsM : List Mv → Option (List Str)
  | [] => some []
  | .d (.str b) :: r => (strsM r).map (b :: ·)
  | _ :: _ => none
section
variable {K : PySem.W.Frag} {ι : Io} {H : Hp}
theorem bools_ok : ∀ {xs : List Mv} {vs : List V} {bs : List Bool}, XCs K ι H xs vs → boolsM xs = some bs → vs = bs.map V.bl
  | _, _, _, .nil, e => by cases e; rfl
  | x :: xs, _, _, .cons r t, e => by
    cases x with
    | d y => cases y with
      | bool b =>
        obtain ⟨l, e1, rfl⟩ := Option.map_eq_some_iff.mp (show (boolsM xs).map (b :: ·) = _ from e)
        cases r.2
        rw [bools_ok t e1]; rfl
      | _ => cases e
    | _ => cases e
theorem ints_ok : ∀ {xs : List Mv} {vs : List V} {bs : List Int}, XCs K ι H xs vs → intsM xs = some bs → vs = bs.map V.int
  | _, _, _, .nil, e => by cases e; rfl
  | x :: xs, _, _, .cons r t, e => by
    cases x with
    | d y => cases y with
      | int b =>
        obtain ⟨l, e1, rfl⟩ := Option.map_eq_some_iff.mp (show (intsM xs).map (b :: ·) = _ from e)
        cases r.2
        rw [ints_ok t e1]; rfl
      | _ => cases e
    | _ => cases e
theorem strs_ok : ∀ {xs : List Mv} {vs : List V} {bs : List Str}, XCs K ι H xs vs → strsM xs = some bs → vs = bs.map V.str
  | _, _, _, .nil, e => by cases e; rfl
  | x :: xs, _, _, .cons r t, e => by
    cases x with
    | d y => cases y with
      | str b =>
        obtain ⟨l, e1, rfl⟩ := Option.map_eq_some_iff.mp (show (strsM xs).map (b :: ·) = _ from e)
        cases r.2
        rw [strs_ok t e1]; rfl
      | _ => cases e
    | _ => cases e
end
def gList1 {α : Type} (p : List Mv → Option α) (f : α → Nw) : Sg → List Mv → Option Nw := fun S xs => match xs with
  | [x] => (x.isList S).bind fun ys => (p ys).map f
  | _ => none
theorem list1_ok {α : Type} {p : List Mv → Option α} {f : α → Nw} {K : PySem.W.Frag} {ι : Io} {S : Sg} {H : Hp} {xs : List Mv} {vs : List V} {z : Nw} (hr : Rl K ι S H) (hx : XVs K ι H xs vs) (e : gList1 p f S xs = some z) :
    ∃ a ys ws c, vs = [.ref a] ∧ PlnL K H a ws ∧ XCs K ι H ys ws ∧ p ys = some c ∧ z = f c := by
  unfold gList1 at e
  split at e
  · obtain ⟨ys, e1, e2⟩ := Option.bind_eq_some_iff.mp e
    obtain ⟨c, e3, rfl⟩ := Option.map_eq_some_iff.mp e2
    obtain ⟨v, rfl, h⟩ := one_of hx
    obtain ⟨a, ws, rfl, h1, h2⟩ := Mv.isList_ok hr h e1
    exact ⟨a, ys, ws, c, rfl, h1, h2, e3, rfl⟩
  · cases e
def gAll := gList1 boolsM fun bs => .val (.d (.bool (bs.all id)))
def gAny := gList1 boolsM fun bs => .val (.d (.bool (bs.any id)))
def gSum := gList1 intsM fun ns => .val (.d (.int ns.sum))
theorem c_all (hc : X.calm = true) : CallP X (.builtin "all") gAll := by
  refine CallR.imp (cr_all hc) fun vs H Q ⟨ι, S, xs, z, hr, hx, e, q⟩ => ?_
  obtain ⟨a, ys, ws, c, rfl, h1, h2, e1, rfl⟩ := list1_ok hr hx e
  exact ⟨a, c, rfl, by rw [← bools_ok h2 e1]; exact h1.sq, q _ (.bl _)⟩
theorem c_any (hc : X.calm = true) : CallP X (.builtin "any") gAny := by
  refine CallR.imp (cr_any hc) fun vs H Q ⟨ι, S, xs, z, hr, hx, e, q⟩ => ?_
  obtain ⟨a, ys, ws, c, rfl, h1, h2, e1, rfl⟩ := list1_ok hr hx e
  exact ⟨a, c, rfl, by rw [← bools_ok h2 e1]; exact h1.sq, q _ (.bl _)⟩
theorem c_sum (hc : X.calm = true) : CallP X (.builtin "sum") gSum := by
  refine CallR.imp (cr_sum hc) fun vs H Q ⟨ι, S, xs, z, hr, hx, e, q⟩ => ?_
  obtain ⟨a, ys, ws, c, rfl, h1, h2, e1, rfl⟩ := list1_ok hr hx e
  exact ⟨a, c, rfl, by rw [← ints_ok h2 e1]; exact h1.sq, q _ (.int _)⟩
/-- list(xs) of a list, a tuple -/
def gList : Sg → List Mv → Option Nw := fun S xs => match xs with
  | [x] => (x.seq S).map fun q => .lst q.2
  | _ => none
theorem c_list : CallP X (.type "list") gList := by
  refine CallR.imp call_list_of fun vs H Q ⟨ι, S, xs, z, hr, hx, e, q⟩ => ?_
  unfold gList at e
  split at e
  · obtain ⟨⟨t, ys⟩, e1, rfl⟩ := Option.map_eq_some_iff.mp e
    obtain ⟨v, rfl, h⟩ := one_of hx
    obtain ⟨a, ws, rfl, h1, h2⟩ := Mv.seq_ok hr h e1
    refine ⟨a, ws, rfl, ?_, fun l hl => q ws l h2 hl⟩
    cases t with
    | true => exact .inr h1
    | false => exact .inl (PlnL.sq h1)
  · cases e
/-- divmod by a small positive number -/
def gDivmod : Sg → List Mv → Option Nw := fun _ xs => match xs with
  | [.d (.int i), .d (.int j)] => if 0 < j ∧ j < 1073741824 then some (.tup [.d (.int (i / j)), .d (.int (i % j))]) else none
  | _ => none
theorem c_divmod : CallP X (.builtin "divmod") gDivmod := by
  refine CallR.imp call_divmod fun vs H Q ⟨ι, S, xs, z, hr, hx, e, q⟩ => ?_
  unfold gDivmod at e
  split at e
  · split at e
    · rename_i c
      cases e
      obtain ⟨v, u, rfl, h1, h2⟩ := two_of hx
      cases h1; cases h2
      exact ⟨_, _, rfl, c, fun p hp => q _ p (.cons ⟨rfl, .int _⟩ (.cons ⟨rfl, .int _⟩ .nil)) hp⟩
    · cases e
  · cases e
/-- isinstance by a built-in class -/
def Mv.kind (S : Sg) (x : Mv) : Option String := match x with
  | .d .none => some "NoneType"
  | .d (.bool _) => some "bool"
  | .d (.int _) => some "int"
  | .d (.str _) => some "str"
  | .d (.dict _) => some "dict"
  | x => (x.seq S).map fun q => if q.1 = true then "tuple" else "list"
theorem SqT_ty {K : PySem.W.Frag} {H : Hp} {a : Addr} {vs : List V} (h : SqT K H a vs) : TyX K H (.ref a) (.type "tuple") := by
  rcases h with (h | ⟨o, h⟩) | ⟨o, its, n, h1, h2, _⟩
  · exact .base (.tup h)
  · exact .fTuple h
  · exact .kTuple h1 h2
theorem PlnL_ty {K : PySem.W.Frag} {H : Hp} {a : Addr} {vs : List V} (h : PlnL K H a vs) : TyX K H (.ref a) (.type "list") := by
  rcases h with h | ⟨o, h⟩ | ⟨its, n, h1, _⟩
  · exact .base (.lst h)
  · exact .base (.frz h)
  · exact .kList h1 rfl
theorem Mv.kind_ok {K : PySem.W.Frag} {ι : Io} {S : Sg} {H : Hp} (hr : Rl K ι S H) {x : Mv} {v : V} (hx : XV K ι H x v) {t : String} (e : x.kind S = some t) : TyX K H v (.type t) := by
  have sq : ∀ b xs, x.seq S = some (b, xs) → t = (if b = true then "tuple" else "list") → TyX K H v (.type t) := by
    intro b xs e1 e2
    obtain ⟨a, vs, rfl, h1, h2⟩ := Mv.seq_ok hr hx e1
    subst e2
    cases b with
    | true => exact SqT_ty h1
    | false => exact PlnL_ty h1
  unfold Mv.kind at e
  split at e
  · cases e; cases hx; exact .base .non
  · cases e; cases hx; exact .base (.bl _)
  · cases e; cases hx; exact .base (.int _)
  · cases e; cases hx; exact .base (.str _)
  · cases e
    cases hx with
    | dct h _ => exact .fDict h
  · obtain ⟨⟨b, xs⟩, e1, e2⟩ := Option.map_eq_some_iff.mp e
    exact sq b xs e1 e2.symm
def gIsi : Sg → List Mv → Option Nw := fun S xs => match xs with
  | [x, .ty c] => (x.kind S).bind fun t => (kitB t c).map fun b => .val (.d (.bool b))
  | _ => none
theorem c_isi : CallP X (.builtin "isinstance") gIsi := by
  refine CallR.imp call_isi fun vs H Q ⟨ι, S, xs, z, hr, hx, e, q⟩ => ?_
  unfold gIsi at e
  split at e
  · obtain ⟨t, e1, e2⟩ := Option.bind_eq_some_iff.mp e
    obtain ⟨b, e3, rfl⟩ := Option.map_eq_some_iff.mp e2
    obtain ⟨v, u, rfl, h1, h2⟩ := two_of hx
    cases h2
    exact ⟨v, _, _, _, b, rfl, .ty _, Mv.kind_ok hr h1 e1, kit_ty e3, q _ (.bl _)⟩
  · cases e
/-- repr of data without dicts -/
def gRepr : Sg → List Mv → Option Nw := fun S xs => match xs with
  | [x] => (x.data S).bind fun d => if SeqAt.shaped d = true ∧ d.showable = true ∧ d.shown.length ≤ sizeLine then some (.val (.d (.str d.shown))) else none
  | _ => none
theorem c_repr (gds : X.A.guards = some []) (hu : X.A.units + 128 < cLine) : CallP X (.builtin "repr") gRepr := by
  intro pins s σ H vs us Q I rel ⟨ι, S, xs, z, hr, hx, e, q⟩
  unfold gRepr at e
  split at e
  · obtain ⟨d, e1, e2⟩ := Option.bind_eq_some_iff.mp e
    split at e2
    · rename_i c
      cases e2
      obtain ⟨c1, c2, c3⟩ := c
      obtain ⟨v, rfl, h⟩ := one_of hx
      obtain ⟨u, rfl, ru⟩ := vals1 rel
      have dp := Mv.data_ok hr h e1 c1
      obtain ⟨as, rd⟩ := Dp.reads I d v u dp ru
      have depth := SeqAt.depth_of_shaped c1
      have tell : ∀ (h' : Heap) (t : Tok) (tk : Nat), (∀ b o, s.heap.get? b = some o → h'.get? b = some o) → EP X pins σ Q (.str d.shown t) { s with heap := h', toks := tk } :=
        fun h' t tk k => ⟨.str d.shown, H, I.kept k, ⟨t, rfl⟩, q _ (.str _)⟩
      cases rd with
      | none => exact PySem.P.repr_of_none (tell s.heap _ _ fun _ _ h => h)
      | bool b => exact PySem.P.repr_of_bool (tell s.heap _ _ fun _ _ h => h)
      | int i t => exact PySem.P.repr_of_int (by simpa [PyData.showable] using c2) (tell s.heap _ _ fun _ _ h => h)
      | str y t => exact PySem.P.repr_of_str (tell s.heap _ _ fun _ _ h => h) c3
      | list h1 h2 h3 h4 =>
        exact repr_of_reads' (Reads.list h1 h2 h3 h4) c2 (PyData.noDict_hsm (noDict_of_shaped c1)) gds (by omega) (fun _ _ h => h) (fun h' u tk k => tell h' u tk k) c3
      | tuple h1 h2 h3 h4 =>
        exact repr_of_reads' (Reads.tuple h1 h2 h3 h4) c2 (PyData.noDict_hsm (noDict_of_shaped c1)) gds (by omega) (fun _ _ h => h) (fun h' u tk k => tell h' u tk k) c3
      | dict _ _ _ _ _ => exact absurd (noDict_of_shaped c1) (by simp [PyData.hasDict])
    · cases e2
  · cases e

/-! ### subscripts and slices -/
def atM (xs : List Mv) (i : Int) : Option Mv := atI xs i
theorem atI_paired {α β : Type} {F : α → β → Prop} {xs : List α} {ys : List β} (h : Paired F xs ys) {i : Int} {x : α} (e : atI xs i = some x) : ∃ y, atI ys i = some y ∧ F x y := by
  unfold atI at e ⊢
  obtain ⟨j, e1, e2⟩ := Option.bind_eq_some_iff.mp e
  obtain ⟨y, e3, r⟩ := Paired.at h e2
  exact ⟨y, by rw [← h.length, e1]; exact e3, r⟩
def gIx : Sg → Mv → Mv → Option Mv := fun S x y => match x, y with
  | .d (.str z), .d (.int i) => if z.length ≤ sizeLine then (atI z.cps.toList i).map fun c => .d (.str ⟨#[c]⟩) else none
  | x, .d (.int i) => (x.seq S).bind fun q => atI q.2 i
  | _, _ => none
def mIx (a b : ME) : ME := fun ρ S => (a ρ S).bind fun x S1 => (b ρ S1).bind fun y S2 => match gIx S2 x y with | some z => .ok z S2 | none => .bad
theorem pm_ix {a b : Expr} {ma mb : ME} {pos : Pos} (ha : PM X W a ma) (hb : PM X W b mb) (hs : PlainIx b := by exact fun _ _ => rfl) : PM X W (.Subscript a b pos) (mIx ma mb) := by
  refine pe_imp (pe_ix ix_seq ha hb hs) fun σ H Q ⟨ι, S, ρ, hl, hr, h⟩ => ?_
  refine ⟨ι, S, ρ, hl, hr, step h fun x v ι1 H1 S1 s1 r1 hx h1 => ?_⟩
  refine ⟨ι1, S1, ρ, hl.mono s1, r1, step h1 fun y u ι2 H2 S2 s2 r2 hy h2 => ?_⟩
  have hx := hx.mono s2
  cases e : gIx S2 x y with
  | none => simp only [e] at h2; exact h2.elim
  | some z =>
    simp only [e] at h2
    have h3 : ∀ w, XV X.K ι2 H2 z w → Q w H2 := fun w hw => h2 _ _ _ (Sub.refl _ _) r2 hw
    unfold gIx at e
    split at e
    · split at e
      · rename_i c
        obtain ⟨c0, e1, rfl⟩ := Option.map_eq_some_iff.mp e
        cases hx; cases hy
        exact .inr (.inr ⟨_, _, c0, rfl, rfl, c, e1, h3 _ (.str _)⟩)
      · cases e
    · obtain ⟨⟨t, xs⟩, e1, e2⟩ := Option.bind_eq_some_iff.mp e
      obtain ⟨a, vs, rfl, h4, h5⟩ := Mv.seq_ok r2 hx e1
      obtain ⟨w, e3, r⟩ := atI_paired h5 e2
      cases hy
      cases t with
      | true => exact .inr (.inl ⟨a, vs, _, w, rfl, rfl, h4, e3, h3 w r.2⟩)
      | false => exact .inl ⟨a, vs, _, w, rfl, rfl, PlnL.sq h4, e3, h3 w r.2⟩
    · cases e
/-- a slice's parts -/
abbrev MO := Rho → Sg → Res (Option Int)
abbrev RO : Io → Hp → Option Int → Option Int → Prop := fun _ _ b c => b = c
def PMO (X : Cx) (W : WX) (e : Option Expr) (m : MO) : Prop := PO X e (tG RO X.K W m)
theorem po_imp {e : Option Expr} {t t' : TO} (h : PO X e t) (i : ∀ σ H Q, t' σ H Q → t σ H Q) : PO X e t' := ⟨fun pins s σ H Q I q => h.run pins s σ H Q I (i _ _ _ q)⟩
def mON : MO := fun _ S => .ok none S
def mOS (m : ME) : MO := fun ρ S => (m ρ S).bind fun x S1 => match x with | .d (.int i) => .ok (some i) S1 | _ => .bad
theorem pmo_none : PMO X W none mON := po_imp po_none fun σ H Q ⟨ι, S, ρ, hl, hr, h⟩ => h _ _ _ (Sub.refl _ _) hr rfl
theorem pmo_some {e : Expr} {m : ME} (h : PM X W e m) : PMO X W (some e) (mOS m) := by
  refine po_imp (po_some h) fun σ H Q ⟨ι, S, ρ, hl, hr, h⟩ => ⟨ι, S, ρ, hl, hr, step h fun x v ι1 H1 S1 s1 r1 hx h1 => ?_⟩
  split at h1
  · cases hx
    exact ⟨_, rfl, h1 _ _ _ (Sub.refl _ _) r1 rfl⟩
  · exact h1.elim
def cutM (xs : List Mv) (lo hi : Option Int) : List Mv := (xs.drop (HT.sIx xs.length 0 lo)).take (HT.sIx xs.length xs.length hi - HT.sIx xs.length 0 lo)
theorem Paired.drop {α β : Type} {F : α → β → Prop} : ∀ {xs : List α} {ys : List β} (n : Nat), Paired F xs ys → Paired F (xs.drop n) (ys.drop n)
  | _, _, 0, r => r
  | _, _, _ + 1, .nil => .nil
  | _, _, n + 1, .cons _ t => Paired.drop n t
theorem Paired.take {α β : Type} {F : α → β → Prop} : ∀ {xs : List α} {ys : List β} (n : Nat), Paired F xs ys → Paired F (xs.take n) (ys.take n)
  | _, _, 0, _ => .nil
  | _, _, _ + 1, .nil => .nil
  | _, _, n + 1, .cons r t => .cons r (Paired.take n t)
theorem cut_paired {F : Mv → V → Prop} {xs : List Mv} {ys : List V} (h : Paired F xs ys) (lo hi : Option Int) : Paired F (cutM xs lo hi) (cutV ys lo hi) := by
  unfold cutM cutV
  rw [h.length]
  exact Paired.take _ (Paired.drop _ h)
/-- a tuple's slice that is not the whole of it makes a new one; the whole is itself -/
def gSl (S : Sg) (x : Mv) (lo hi : Option Int) : Option Nw := match x with
  | .d (.str z) => if z.length ≤ sizeLine then some (.val (.d (.str (cutS z lo hi)))) else none
  | x => match x.isList S with | some xs => some (.lst (cutM xs lo hi)) | none => none
def mSl (b : Bi) (a : ME) (lo hi : MO) : ME := fun ρ S => (a ρ S).bind fun x S1 => (lo ρ S1).bind fun l S2 => (hi ρ S2).bind fun u S3 => opt (gSl S3 x l u) fun z => bear b z S3
theorem pm_sl {e : Expr} {lo hi : Option Expr} {m : ME} {ml mh : MO} {p2 pos : Pos} (b : Bi) (h : PM X W e m) (hl : PMO X W lo ml) (hh : PMO X W hi mh) : PM X W (.Subscript e (.Slice lo hi none p2) pos) (mSl b m ml mh) := by
  refine pe_imp (pe_b b (pe_slice (SlR.or sl_list sl_str) h hl hh)) fun σ H Q ⟨ι, S, ρ, hL, hr, h⟩ => ?_
  refine ⟨ι, S, ρ, hL, hr, step h fun x v ι1 H1 S1 s1 r1 hx h1 => ?_⟩
  refine ⟨ι1, S1, ρ, hL.mono s1, r1, step h1 fun l l' ι2 H2 S2 s2 r2 el h2 => ?_⟩
  refine ⟨ι2, S2, ρ, (hL.mono s1).mono s2, r2, step h2 fun u u' ι3 H3 S3 s3 r3 eu h3 => ?_⟩
  cases el; cases eu
  have hx := (hx.mono s2).mono s3
  unfold opt at h3
  cases e : gSl S3 x l u with
  | none => rw [e] at h3; exact h3.elim
  | some z =>
    rw [e] at h3
    have q := bear_raw r3 h3
    unfold gSl at e
    split at e
    · split at e
      · rename_i c
        cases e; cases hx
        exact .inr ⟨_, rfl, c, q _ (.str _)⟩
      · cases e
    · split at e
      · rename_i xs e1
        cases e
        obtain ⟨a, vs, rfl, h4, h5⟩ := Mv.isList_ok r3 hx e1
        exact .inl ⟨a, vs, rfl, h4.sq, fun p hp => q _ p (cut_paired h5 l u) hp⟩
      · cases e
theorem filt_all {α : Type} (a : Array α) : (List.range a.size).filterMap (a[·]?) = a.toList := by
  have key : ∀ n, n ≤ a.size → (List.range n).filterMap (a[·]?) = a.toList.take n := by
    intro n
    induction n with
    | zero => intro _; simp
    | succ n ih =>
      intro hn
      rw [List.range_succ, List.filterMap_append, ih (by omega), List.take_add_one]
      have : a[n]? = a.toList[n]? := by simp
      simp only [List.filterMap_cons, List.filterMap_nil, this]
      cases a.toList[n]? <;> rfl
  rw [key a.size (Nat.le_refl _)]
  exact List.take_of_length_le (by simp)
/-- turned about: a list, a text -/
def revS (z : Str) : Str := ⟨z.cps.toList.reverse.toArray⟩
theorem Paired.reverse {α β : Type} {F : α → β → Prop} {xs : List α} {ys : List β} (h : Paired F xs ys) : Paired F xs.reverse ys.reverse := by
  induction h with
  | nil => exact .nil
  | cons r t ih => rw [List.reverse_cons, List.reverse_cons]; exact ih.snoc r
def tRevS (te : TE) : TE := fun σ H Q => te σ H fun x H1 => ∃ z, x = .str z ∧ z.length ≤ sizeLine ∧ Q (.str (revS z)) H1
theorem pe_revS {e : Expr} {te : TE} {k : Nat} {p1 p2 p3 pos : Pos} (he : PE X e te) : PE X (.Subscript e (.Slice none none (some (.UnaryOp .USub (.Constant (.int 1) k p1) p2)) p3) pos) (tRevS te) := by
  refine ⟨fun pins s σ H Q I want => ?_⟩
  refine Subscript_ (thn (he.run pins s σ H _ I want) fun v s1 ⟨x, H1, I1, rel, z, ex, hz, q⟩ => ?_)
  subst ex
  obtain ⟨t, rfl⟩ := rel
  have one : PO X (some (.UnaryOp .USub (.Constant (.int 1) k p1) p2)) (tPart (tUn (rU fun i => .int (-i)) (tC (.int 1)))) := po_some (pe_un un_neg pe_int)
  refine wpAny_Slice (thn (po_none.run pins s1 σ H1 (fun o G => o = none ∧ G = H1) I1 ⟨rfl, rfl⟩) fun v1 s2 ⟨o1, G2, I2, part1, o1e, g2⟩ => ?_)
  subst o1e g2
  refine thn (po_none.run pins s2 σ G2 (fun o G => o = none ∧ G = G2) I2 ⟨rfl, rfl⟩) fun v2 s3 ⟨o2, G3, I3, part2, o2e, g3⟩ => ?_
  subst o2e g3
  refine thn (one.run pins s3 σ G3 (fun o G => o = some (-1) ∧ G = G3) I3 ⟨1, rfl, -1, rfl, rfl, rfl⟩) fun v3 s4 ⟨o3, G4, I4, part3, o3e, g4⟩ => ?_
  subst o3e g4
  obtain ⟨l1, rfl, m1⟩ := IsPart.raw part1
  obtain ⟨l2, rfl, m2⟩ := IsPart.raw part2
  obtain ⟨l3, rfl, m3⟩ := IsPart.raw part3
  have J : Inv X pins σ G4 { s4 with heap := s4.heap.push { cls := .type "slice", data := .fields #[partValue l1, partValue l2, partValue l3] } } := I4.kept (t' := s4.toks) fun b ob e => Heap.get?_push_of_some _ e
  show wpAny (model X.prog X.w) X.A (subscriptTail e (.Slice none none (some (.UnaryOp .USub (.Constant (.int 1) k p1) p2)) p3) (.str z t) (.ref s4.heap.objs.size)) (EP X pins σ Q) X.xe { s4 with heap := s4.heap.push { cls := .type "slice", data := .fields #[partValue l1, partValue l2, partValue l3] } }
  refine tail_any (ops := [.str z t, .ref s4.heap.objs.size]) (typeIs_str _ _ _) PySem.F.slot_str_getitem.lookup ?_ (by with_unfolding_all rfl)
  refine wpAny_getItem_str_slice (l := l1) (u := l2) (st := l3) ⟨_, Heap.get?_push_size _ rfl, rfl, rfl⟩ (by rw [m3]; rfl) ?_
  have pick : ((slicePicked z l1 l2 l3).filterMap (z.cps[·]?)).toArray = z.cps.toList.reverse.toArray := by
    unfold slicePicked
    rw [m1, m2, m3]
    show ((sliceRange ((z.length : Int) - 1) (-1) (-1)).filterMap (z.cps[·]?)).toArray = _
    have := PySem.W.krv_pick
    rw [PySem.W.krv_sliceRange, PySem.W.krv_range, List.filterMap_reverse]
    congr 2
    show (List.range z.cps.size).filterMap (z.cps[·]?) = z.cps.toList
    exact filt_all z.cps
  unfold sliceMade
  rw [m3, pick]
  exact ⟨by show z.cps.toList.reverse.toArray.size ≤ sizeLine; simpa [Str.length] using hz, .str (revS z), G4, J.tok _, ⟨_, rfl⟩, q⟩
end
end MM
end
section
set_option Elab.async false
set_option linter.all false
set_option maxRecDepth 100000
set_option maxHeartbeats 4000000
set_option autoImplicit false
namespace MM
open PySem PySem.Spec PyProof.Rows L2

section
variable {X : Cx} {W : WX}
/-! ### turned about -/
theorem pe_or {e : Expr} {t t' : TE} (h : PE X e t) (h' : PE X e t') : PE X e (fun σ H Q => t σ H Q ∨ t' σ H Q) := ⟨fun pins s σ H Q I q => by
  rcases q with q | q
  · exact h.run pins s σ H Q I q
  · exact h'.run pins s σ H Q I q⟩
def mRev (b : Bi) (m : ME) : ME := fun ρ S => (m ρ S).bind fun x S1 => match x with
  | .d (.str z) => if z.length ≤ sizeLine then .ok (.d (.str (revS z))) S1 else .bad
  | x => match x.isList S1 with | some xs => bear b (.lst xs.reverse) S1 | none => .bad
theorem pm_rev {e : Expr} {m : ME} {k : Nat} {p1 p2 p3 pos : Pos} (b : Bi) (h : PM X W e m) : PM X W (.Subscript e (.Slice none none (some (.UnaryOp .USub (.Constant (.int 1) k p1) p2)) p3) pos) (mRev b m) := by
  refine pe_imp (pe_or (pe_revS h) (pe_b b (pe_revL h))) fun σ H Q ⟨ι, S, ρ, hl, hr, h⟩ => ?_
  cases em : m ρ S with
  | bad => unfold mRev at h; rw [em] at h; exact h.elim
  | exc ex S' =>
    unfold mRev at h; rw [em] at h
    exact .inl ⟨ι, S, ρ, hl, hr, by rw [em]; exact h⟩
  | ok x S1 =>
    unfold mRev at h; rw [em] at h
    simp only [Res.bind] at h
    split at h
    · rename_i z
      split at h
      · rename_i c
        refine .inl ⟨ι, S, ρ, hl, hr, ?_⟩
        rw [em]
        intro ι1 H1 v s1 r1 hx
        cases hx
        exact ⟨_, rfl, c, h _ _ _ s1 r1 (.str _)⟩
      · exact h.elim
    · split at h
      · rename_i xs e1
        refine .inr ⟨ι, S, ρ, hl, hr, ?_⟩
        rw [em]
        intro ι1 H1 v s1 r1 hx
        obtain ⟨a, vs, rfl, h1, h2⟩ := Mv.isList_ok r1 hx e1
        exact ⟨a, vs, rfl, h1.sq, fun p hp => bear_raw (n := .lst xs.reverse) r1 (h.sub s1) _ p (Paired.reverse h2) hp⟩
      · exact h.elim

/-! ### methods of built-in things -/
def tyM (T : String) (x : Mv) (S : Sg) : Bool := match x with
  | .d (.str _) => T == "str"
  | x => match x.isList S with | some _ => T == "list" | none => false
theorem tyM_ok {K : PySem.W.Frag} {ι : Io} {S : Sg} {H : Hp} (hr : Rl K ι S H) {T : String} {x : Mv} {v : V} (hx : XV K ι H x v) (e : tyM T x S = true) : tyV K T v H := by
  unfold tyM at e
  split at e
  · cases hx
    exact (beq_iff_eq.mp e)
  · split at e
    · rename_i xs e1
      obtain ⟨a, vs, rfl, h1, h2⟩ := Mv.isList_ok hr hx e1
      exact .inl ⟨beq_iff_eq.mp e, vs, h1.sq⟩
    · cases e
/-- what is told, the store as it is -/
def MtP (X : Cx) (id : String) (g : Sg → Mv → List Mv → Option Nw) : Prop :=
  MtR X id fun v vs H Q => ∃ ι S x xs z, Rl X.K ι S H ∧ XV X.K ι H x v ∧ XVs X.K ι H xs vs ∧ g S x xs = some z ∧ Raw X.K ι H Q z
/-- what is told, and the store behind -/
def MtU (X : Cx) (id : String) (g : Sg → Mv → List Mv → Option (Mv × Sg)) : Prop :=
  MtR X id fun v vs H Q => ∃ ι S x xs z S', Rl X.K ι S H ∧ XV X.K ι H x v ∧ XVs X.K ι H xs vs ∧ g S x xs = some (z, S') ∧ ∀ H' w, Sub ι H ι H' → Rl X.K ι S' H' → XV X.K ι H' z w → Q w H'
theorem MtR.imp {id : String} {r r' : V → List V → Hp → VK → Prop} (h : MtR X id r) (i : ∀ x xs H Q, r' x xs H Q → r x xs H Q) : MtR X id r' := fun pins s σ H x xs v us Q I rx rs q => h pins s σ H x xs v us Q I rx rs (i _ _ _ _ q)
def mBM (b : Bi) (T : String) (g : Sg → Mv → List Mv → Option Nw) (o : ME) (a : MA) : ME := fun ρ S => (o ρ S).bind fun x S1 => if tyM T x S1 = true then (a ρ S1).bind fun xs S2 => opt (g S2 x xs) fun z => bear b z S2 else .bad
def mBU (T : String) (g : Sg → Mv → List Mv → Option (Mv × Sg)) (o : ME) (a : MA) : ME := fun ρ S => (o ρ S).bind fun x S1 => if tyM T x S1 = true then (a ρ S1).bind fun xs S2 => match g S2 x xs with | some (z, S') => .ok z S' | none => .bad else .bad
theorem bm_core {T : String} {g : Sg → Mv → List Mv → Option Nw} {mo : ME} {ma : MA} {b : Bi} {σ : L2.St} {H : Hp} {Q : VK} (h : tG (XV X.K) X.K W (mBM b T g mo ma) σ H Q) :
    tBM X.K T (fun v vs H Q => ∃ ι S x xs z, Rl X.K ι S H ∧ XV X.K ι H x v ∧ XVs X.K ι H xs vs ∧ g S x xs = some z ∧ Raw X.K ι H Q z) (tG (XV X.K) X.K W mo) (tG (XVs X.K) X.K W ma) σ H (Qf b Q) := by
  obtain ⟨ι, S, ρ, hl, hr, h⟩ := h
  refine ⟨ι, S, ρ, hl, hr, step h fun x v ι1 H1 S1 s1 r1 hx h1 => ?_⟩
  by_cases c : tyM T x S1 = true
  · rw [if_pos c] at h1
    refine ⟨tyM_ok r1 hx c, ι1, S1, ρ, hl.mono s1, r1, step h1 fun xs vs ι2 H2 S2 s2 r2 hs h2 => ?_⟩
    unfold opt at h2
    cases e : g S2 x xs with
    | none => rw [e] at h2; exact h2.elim
    | some z =>
      rw [e] at h2
      exact ⟨ι2, S2, x, xs, z, r2, hx.mono s2, hs, e, bear_raw r2 h2⟩
  · rw [if_neg c] at h1; exact h1.elim
theorem bu_core {T : String} {g : Sg → Mv → List Mv → Option (Mv × Sg)} {mo : ME} {ma : MA} {σ : L2.St} {H : Hp} {Q : VK} (h : tG (XV X.K) X.K W (mBU T g mo ma) σ H Q) :
    tBM X.K T (fun v vs H Q => ∃ ι S x xs z S', Rl X.K ι S H ∧ XV X.K ι H x v ∧ XVs X.K ι H xs vs ∧ g S x xs = some (z, S') ∧ ∀ H' w, Sub ι H ι H' → Rl X.K ι S' H' → XV X.K ι H' z w → Q w H') (tG (XV X.K) X.K W mo) (tG (XVs X.K) X.K W ma) σ H Q := by
  obtain ⟨ι, S, ρ, hl, hr, h⟩ := h
  refine ⟨ι, S, ρ, hl, hr, step h fun x v ι1 H1 S1 s1 r1 hx h1 => ?_⟩
  by_cases c : tyM T x S1 = true
  · rw [if_pos c] at h1
    refine ⟨tyM_ok r1 hx c, ι1, S1, ρ, hl.mono s1, r1, step h1 fun xs vs ι2 H2 S2 s2 r2 hs h2 => ?_⟩
    cases e : g S2 x xs with
    | none => simp only [e] at h2; exact h2.elim
    | some p =>
      obtain ⟨z, S'⟩ := p
      simp only [e] at h2
      exact ⟨ι2, S2, x, xs, z, S', r2, hx.mono s2, hs, e, fun H' w s r hz => h2 _ _ _ s r hz⟩
  · rw [if_neg c] at h1; exact h1.elim
section
variable {o e : Expr} {es : List Expr} {name : Str} {apos cpos : Pos} {T id : String} {mo : ME} {ma : MA}
theorem pm_bm {g : Sg → Mv → List Mv → Option Nw} (b : Bi) (pa : PlainAttrs T) (slot : Slot T name id) (hty : typeOf (.builtin id) = pure (.type "method_descriptor")) (hm : MtP X id g) (ho : PM X W o mo) (ha : PL X W (e :: es) ma)
    (hbase : attributeBase o name X.env (eval o X.env) = eval o X.env := by rfl)
    (hfew : ((backTo cpos (starEach (e :: es) X.env)).all (fun x => !x.1) && (backToKw cpos (keywordEach [] X.env)).all (fun x => x.1.isSome) && decide ((e :: es).length + ([] : List Keyword).length + (if ([] : List Keyword).isEmpty then 0 else 1) < 30)) = true := by rfl)
    (hline : (apos.endLine == cpos.line) = true := by rfl) (hs : starEach (e :: es) X.env = (false, eval e X.env) :: starEach es X.env := by rfl) (hplain : (backTo cpos (starEach es X.env)).any (·.1) = false := by rfl) :
    PM X W (.Call (.Attribute o name apos) (e :: es) [] cpos) (mBM b T g mo ma) :=
  pe_imp (pe_b b (pe_bm pa slot hty hm ho ha hbase hfew hline hs hplain)) fun σ H Q h => bm_core h
theorem pm_bu {g : Sg → Mv → List Mv → Option (Mv × Sg)} (pa : PlainAttrs T) (slot : Slot T name id) (hty : typeOf (.builtin id) = pure (.type "method_descriptor")) (hm : MtU X id g) (ho : PM X W o mo) (ha : PL X W (e :: es) ma)
    (hbase : attributeBase o name X.env (eval o X.env) = eval o X.env := by rfl)
    (hfew : ((backTo cpos (starEach (e :: es) X.env)).all (fun x => !x.1) && (backToKw cpos (keywordEach [] X.env)).all (fun x => x.1.isSome) && decide ((e :: es).length + ([] : List Keyword).length + (if ([] : List Keyword).isEmpty then 0 else 1) < 30)) = true := by rfl)
    (hline : (apos.endLine == cpos.line) = true := by rfl) (hs : starEach (e :: es) X.env = (false, eval e X.env) :: starEach es X.env := by rfl) (hplain : (backTo cpos (starEach es X.env)).any (·.1) = false := by rfl) :
    PM X W (.Call (.Attribute o name apos) (e :: es) [] cpos) (mBU T g mo ma) :=
  pe_imp (pe_bm pa slot hty hm ho ha hbase hfew hline hs hplain) fun σ H Q h => bu_core h
theorem pm_bu0 {g : Sg → Mv → List Mv → Option (Mv × Sg)} (pa : PlainAttrs T) (slot : Slot T name id) (hty : typeOf (.builtin id) = pure (.type "method_descriptor")) (hm : MtU X id g) (ho : PM X W o mo)
    (hbase : attributeBase o name X.env (eval o X.env) = eval o X.env := by rfl) (hline : (apos.endLine == cpos.line) = true := by rfl) : PM X W (.Call (.Attribute o name apos) [] [] cpos) (mBU T g mo mNil) := by
  refine pe_imp (pe_bm0 pa slot hty hm ho hbase hline) fun σ H Q h => ?_
  obtain ⟨ι, S, ρ, hl, hr, h⟩ := bu_core h
  refine ⟨ι, S, ρ, hl, hr, h.imp fun v H1 ⟨h1, h2⟩ => ⟨h1, ?_⟩⟩
  obtain ⟨ι2, S2, ρ2, _, r2, h3⟩ := h2
  exact h3 _ _ _ (Sub.refl _ _) r2 .nil
theorem pm_bm0 {g : Sg → Mv → List Mv → Option Nw} (b : Bi) (pa : PlainAttrs T) (slot : Slot T name id) (hty : typeOf (.builtin id) = pure (.type "method_descriptor")) (hm : MtP X id g) (ho : PM X W o mo)
    (hbase : attributeBase o name X.env (eval o X.env) = eval o X.env := by rfl) (hline : (apos.endLine == cpos.line) = true := by rfl) : PM X W (.Call (.Attribute o name apos) [] [] cpos) (mBM b T g mo mNil) := by
  refine pe_imp (pe_b b (pe_bm0 pa slot hty hm ho hbase hline)) fun σ H Q h => ?_
  obtain ⟨ι, S, ρ, hl, hr, h⟩ := bm_core h
  refine ⟨ι, S, ρ, hl, hr, h.imp fun v H1 ⟨h1, h2⟩ => ⟨h1, ?_⟩⟩
  obtain ⟨ι2, S2, ρ2, _, r2, h3⟩ := h2
  exact h3 _ _ _ (Sub.refl _ _) r2 .nil
end
/-- a cell that a value names -/
def Mv.cell (S : Sg) (x : Mv) : Option (Nat × Bool × Mo) := match x with
  | .ref i => match S[i]? with | some (false, o) => some (i, false, o) | _ => none
  | .own i => match S[i]? with | some (true, o) => some (i, true, o) | _ => none
  | _ => none
theorem Mv.cell_ok {K : PySem.W.Frag} {ι : Io} {S : Sg} {H : Hp} (hr : Rl K ι S H) {x : Mv} {v : V} (hx : XV K ι H x v) {i : Nat} {b : Bool} {o : Mo} (e : x.cell S = some (i, b, o)) : ∃ a, v = .ref a ∧ ι[i]? = some (b, a) ∧ S[i]? = some (b, o) ∧ OV K ι H a o := by
  unfold Mv.cell at e
  split at e
  · obtain ⟨a, h1, rfl⟩ := hx
    split at e
    · rename_i e1
      cases e
      exact ⟨a, rfl, h1, e1, hr.cell _ _ _ _ e1 h1⟩
    · cases e
  · obtain ⟨a, h1, rfl⟩ := hx
    split at e
    · rename_i e1
      cases e
      exact ⟨a, rfl, h1, e1, hr.cell _ _ _ _ e1 h1⟩
    · cases e
  · cases e
def uAppend : Sg → Mv → List Mv → Option (Mv × Sg) := fun S x xs => match xs with
  | [y] => match x.cell S with
    | some (i, b, .lst zs) => if y.free = true ∧ zs.length < sizeLine then some (.d .none, S.set i (b, .lst (zs ++ [y]))) else none
    | _ => none
  | _ => none
theorem XCs.upd1 {K : PySem.W.Frag} {ι : Io} {H : Hp} {a : Addr} {u v : HO} {xs : List Mv} {vs : List V} (hv : H a = some v) (m : Mut (some v)) (h : XCs K ι H xs vs) : XCs K ι (upd H a u) xs vs := XCs.grown ⟨[], (List.append_nil _).symm⟩ (Grow.write hv m) h
theorem XC.upd1 {K : PySem.W.Frag} {ι : Io} {H : Hp} {a : Addr} {u v : HO} {x : Mv} {w : V} (hv : H a = some v) (m : Mut (some v)) (h : XC K ι H x w) : XC K ι (upd H a u) x w := ⟨h.1, h.2.grown ⟨[], (List.append_nil _).symm⟩ (Grow.write hv m)⟩
theorem u_append : MtU X "list.append" uAppend := by
  refine MtR.imp mt_append fun v vs H Q ⟨ι, S, x, xs, z, S', hr, hx, hxs, e, q⟩ => ?_
  unfold uAppend at e
  split at e
  · rename_i y
    split at e
    · rename_i i b zs e1
      split at e
      · rename_i c
        cases e
        obtain ⟨a, rfl, h1, h2, ws, h3, h4⟩ := Mv.cell_ok hr hx e1
        obtain ⟨w, rfl, hy⟩ := one_of hxs
        obtain ⟨r2, s2⟩ := hr.put (u := .lst (ws ++ [w])) (o := .lst (zs ++ [y])) ⟨_, h2⟩ h1 h3 trivial ⟨_, upd_same, Paired.append (XCs.upd1 h3 trivial h4) (.cons (XC.upd1 h3 trivial ⟨c.1, hy⟩) .nil)⟩
        exact ⟨a, ws, w, rfl, rfl, h3, by rw [← h4.length]; exact c.2, q _ _ s2 r2 .non⟩
      · cases e
    · cases e
  · cases e
theorem Paired.dropLast {α β : Type} {F : α → β → Prop} : ∀ {xs : List α} {ys : List β}, Paired F xs ys → Paired F xs.dropLast ys.dropLast
  | _, _, .nil => .nil
  | _, _, .cons _ .nil => .nil
  | _, _, .cons r (.cons r2 t) => .cons r (Paired.dropLast (.cons r2 t))
def uPop : Sg → Mv → List Mv → Option (Mv × Sg) := fun S x xs => match xs with
  | [] => match x.cell S with
    | some (i, b, .lst zs) => (zs[zs.length - 1]?).map fun y => (y, S.set i (b, .lst zs.dropLast))
    | _ => none
  | [.d (.int k)] => match x.cell S with
    | some (i, b, .lst zs) => if -(2 ^ 63) ≤ k ∧ k < 2 ^ 63 then (seqIndex? k zs.length).bind fun j => (zs[j]?).map fun y => (y, S.set i (b, .lst (zs.eraseIdx j))) else none
    | _ => none
  | _ => none
theorem Paired.erase {α β : Type} {F : α → β → Prop} : ∀ {xs : List α} {ys : List β} (n : Nat), Paired F xs ys → Paired F (xs.eraseIdx n) (ys.eraseIdx n)
  | _, _, _, .nil => .nil
  | _, _, 0, .cons r t => t
  | _, _, n + 1, .cons r t => .cons r (Paired.erase n t)
theorem MtR.or2 {id : String} {r r' : V → List V → Hp → VK → Prop} (h : MtR X id r) (h' : MtR X id r') : MtR X id (fun x xs H Q => r x xs H Q ∨ r' x xs H Q) := fun pins s σ H x xs v us Q I rx rs q => by
  rcases q with q | q
  · exact h pins s σ H x xs v us Q I rx rs q
  · exact h' pins s σ H x xs v us Q I rx rs q
theorem u_pop : MtU X "list.pop" uPop := by
  refine MtR.imp (MtR.or2 mt_pop mt_popAt) fun v vs H Q ⟨ι, S, x, xs, z, S', hr, hx, hxs, e, q⟩ => ?_
  unfold uPop at e
  split at e
  · split at e
    · rename_i i b zs e1
      obtain ⟨y, e2, e3⟩ := Option.map_eq_some_iff.mp e
      cases e3
      obtain ⟨a, rfl, h1, h2, ws, h3, h4⟩ := Mv.cell_ok hr hx e1
      cases hxs
      obtain ⟨w, e4, hw⟩ := Paired.at h4 e2
      obtain ⟨r2, s2⟩ := hr.put (u := .lst ws.dropLast) (o := .lst zs.dropLast) ⟨_, h2⟩ h1 h3 trivial ⟨_, upd_same, Paired.dropLast (XCs.upd1 h3 trivial h4)⟩
      exact .inl ⟨a, ws, w, rfl, rfl, h3, by rw [← h4.length]; exact e4, q _ _ s2 r2 (hw.2.mono s2)⟩
    · cases e
  · rename_i k
    split at e
    · rename_i i b zs e1
      split at e
      · rename_i c
        obtain ⟨j, e2, e3⟩ := Option.bind_eq_some_iff.mp e
        obtain ⟨y, e4, e5⟩ := Option.map_eq_some_iff.mp e3
        cases e5
        obtain ⟨a, rfl, h1, h2, ws, h3, h4⟩ := Mv.cell_ok hr hx e1
        obtain ⟨w0, rfl, hk⟩ := one_of hxs
        cases hk
        obtain ⟨w, e6, hw⟩ := Paired.at h4 e4
        obtain ⟨r2, s2⟩ := hr.put (u := .lst (ws.eraseIdx j)) (o := .lst (zs.eraseIdx j)) ⟨_, h2⟩ h1 h3 trivial ⟨_, upd_same, Paired.erase j (XCs.upd1 h3 trivial h4)⟩
        exact .inr ⟨a, ws, k, j, w, rfl, rfl, h3, c.1, c.2, by rw [← h4.length]; exact e2, e6, q _ _ s2 r2 (hw.2.mono s2)⟩
      · cases e
    · cases e
  · cases e
/-- extend by a list of any kind -/
def rExtL (K : PySem.W.Frag) : V → List V → Hp → VK → Prop := fun x vs H Q => ∃ l b xs zs, x = .ref l ∧ vs = [.ref b] ∧ H l = some (.lst xs) ∧ PlnL K H b zs ∧ xs.length + zs.length ≤ sizeLine ∧ Q .non (upd H l (.lst (xs ++ zs)))
theorem mt_extL : MtR X "list.extend" (rExtL X.K) := by
  intro pins s σ H x vs v us Q I rx rv h
  obtain ⟨l, b, xs, zs, rfl, rfl, hH, hB, hz, q⟩ := h
  cases rx
  obtain ⟨u, rfl, ru⟩ := rv.one
  cases ru
  obtain ⟨few, its, n, r, len1, e1⟩ := I.lstM hH
  obtain ⟨its2, n2, e2, r2, few2⟩ := PlnL.obj I hB
  have len2 := r2.length
  have fits : its.toArray.size + its2.toArray.size ≤ sizeLine := by rw [List.size_toArray, List.size_toArray]; omega
  have short : ¬ (!its.toArray.isEmpty && Builtin.List.listTooLong (its.toArray.size + its2.toArray.size)) = true := by
    rw [notLongL fits, Bool.and_false]
    exact Bool.false_ne_true
  refine call_meets F.slot_list_extend ⟨_, e1, rfl⟩ F.entry_list_extend (F.args_list_extend_2 _ _) (AutoSeq1.list_extend_list_list_0 l its.toArray n b its2.toArray n2 short (by rw [List.size_toArray]; omega) (by omega)) ⟨e1, e2, ?_⟩
  exact ⟨.non, _, I.lset (its' := its ++ its2) hH e1 (by simp) (r.append r2) (by rw [List.length_append]; omega), rfl, q⟩
def uExtend : Sg → Mv → List Mv → Option (Mv × Sg) := fun S x xs => match xs with
  | [y] => match x.cell S, y.isList S with
    | some (i, b, .lst zs), some ys => if zs.length + ys.length ≤ sizeLine then some (.d .none, S.set i (b, .lst (zs ++ ys))) else none
    | _, _ => none
  | _ => none
theorem u_extend : MtU X "list.extend" uExtend := by
  refine MtR.imp mt_extL fun v vs H Q ⟨ι, S, x, xs, z, S', hr, hx, hxs, e, q⟩ => ?_
  unfold uExtend at e
  split at e
  · rename_i y
    split at e
    · rename_i i b zs ys e1 e2
      split at e
      · rename_i c
        cases e
        obtain ⟨a, rfl, h1, h2, ws, h3, h4⟩ := Mv.cell_ok hr hx e1
        obtain ⟨w, rfl, hy⟩ := one_of hxs
        obtain ⟨a2, ws2, rfl, h5, h6⟩ := Mv.isList_ok hr hy e2
        obtain ⟨r2, s2⟩ := hr.put (u := .lst (ws ++ ws2)) (o := .lst (zs ++ ys)) ⟨_, h2⟩ h1 h3 trivial ⟨_, upd_same, Paired.append (XCs.upd1 h3 trivial h4) (XCs.upd1 h3 trivial h6)⟩
        exact ⟨a, a2, ws, ws2, rfl, rfl, h3, h5, by rw [← h4.length, ← h6.length]; exact c, q _ _ s2 r2 .non⟩
      · cases e
    · cases e
  · cases e
/-! ### a list's item is stored -/
def setIx (S : Sg) (x y : Mv) (z : Mv) : Option Sg := match y with
  | .d (.int k) => match x.cell S with
    | some (i, b, .lst zs) => if z.free = true then (ixN zs.length k).map fun j => S.set i (b, .lst (zs.set j z)) else none
    | _ => none
  | _ => none
theorem Paired.set {α β : Type} {F : α → β → Prop} {x : α} {y : β} (r : F x y) : ∀ {xs : List α} {ys : List β} (n : Nat), Paired F xs ys → Paired F (xs.set n x) (ys.set n y)
  | _, _, _, .nil => .nil
  | _, _, 0, .cons _ t => .cons r t
  | _, _, n + 1, .cons q t => .cons q (Paired.set r n t)
def mSetIx (v o i : ME) : MS := fun ρ S => (v ρ S).go ρ fun z S1 => (o ρ S1).go ρ fun x S2 => (i ρ S2).go ρ fun y S3 => match setIx S3 x y z with | some S4 => .nx ρ S4 | none => .bad
theorem pms_setIx {o i e : Expr} {mv mo mi : ME} {p pos : Pos} (hv : PM X W e mv) (ho : PM X W o mo) (hi : PM X W i mi)
    (ha : ∀ v, assign (.Subscript o i p) X.env v = (do
      let ov ← holding [v] (eval o X.env)
      let iv ← holding [v, ov] (eval i X.env)
      standAt p
      holding [v, ov, iv] (setItem ov iv v)
      release [v, ov, iv] []) := by intro _; rfl)
    (hs : swapsWithSole [.Subscript o i p] e pos.line X.env = pure false := by rfl) (hw : swappedStores [.Subscript o i p] e X.env = pure none := by rfl)
    (h1 : (assignEach [.Subscript o i p] X.env).map (·.2) = [assign (.Subscript o i p) X.env] := by rfl) : PMS X W (.Assign [.Subscript o i p] e pos) (mSetIx mv mo mi) := by
  refine ps_imp (ps_asg hv (pg_sub ho hi set_list ha) hs hw h1) fun D σ H ⟨ι, S, ρ, hl, hr, h⟩ => ?_
  refine ⟨ι, S, ρ, hl, hr, stepS h hl fun z w ι1 H1 S1 s1 r1 hz h1 => ?_⟩
  refine ⟨ι1, S1, ρ, hl.mono s1, r1, stepS h1 (hl.mono s1) fun x v ι2 H2 S2 s2 r2 hx h2 => ?_⟩
  have hl2 := (hl.mono s1).mono s2
  refine ⟨ι2, S2, ρ, hl2, r2, stepS h2 hl2 fun y u ι3 H3 S3 s3 r3 hy h3 => ?_⟩
  have hx := hx.mono s3
  have hz := (hz.mono s2).mono s3
  cases e : setIx S3 x y z with
  | none => simp only [e] at h3; exact h3.elim
  | some S4 =>
    simp only [e] at h3
    unfold setIx at e
    split at e
    · rename_i k
      split at e
      · rename_i i b zs e1
        split at e
        · rename_i c
          obtain ⟨j, e2, e3⟩ := Option.map_eq_some_iff.mp e
          subst e3
          obtain ⟨a, rfl, q1, q2, ws, q3, q4⟩ := Mv.cell_ok r3 hx e1
          cases hy
          obtain ⟨r4, s4⟩ := r3.put (u := .lst (ws.set j w)) (o := .lst (zs.set j z)) ⟨_, q2⟩ q1 q3 trivial ⟨_, upd_same, Paired.set (XC.upd1 q3 trivial ⟨c, hz⟩) j (XCs.upd1 q3 trivial q4)⟩
          exact ⟨a, ws, k, j, rfl, rfl, q3, by rw [← q4.length]; exact e2, h3 _ _ _ s4 r4 ((hl2.mono s3).mono s4)⟩
        · cases e
      · cases e
    · cases e

/-! ### texts' methods -/
def gJoin : Sg → Mv → List Mv → Option Nw := fun S x xs => match x, xs with
  | .d (.str a), [y] => (y.seq S).bind fun q => (strsM q.2).bind fun ys => if (ys.map (·.length)).sum + ys.length * a.length ≤ 16777216 then some (.val (.d (.str (Txt.join a ys)))) else none
  | _, _ => none
theorem m_join : MtP X "str.join" gJoin := by
  refine MtR.imp mt_join fun v vs H Q ⟨ι, S, x, xs, z, hr, hx, hxs, e, q⟩ => ?_
  unfold gJoin at e
  split at e
  · obtain ⟨⟨t, ms⟩, e1, e2⟩ := Option.bind_eq_some_iff.mp e
    obtain ⟨ys, e3, e4⟩ := Option.bind_eq_some_iff.mp e2
    split at e4
    · rename_i c
      cases e4; cases hx
      obtain ⟨w, rfl, hy⟩ := one_of hxs
      obtain ⟨a, ws, rfl, h1, h2⟩ := Mv.seq_ok hr hy e1
      have es := strs_ok h2 e3
      subst es
      refine ⟨_, a, ys, rfl, rfl, ?_, c, q _ (.str _)⟩
      cases t with
      | true => exact .inr h1
      | false => exact .inl (PlnL.sq h1)
    · cases e4
  · cases e
/-- the place of a text in a text, or a ValueError -/
def exVal : Ex := ⟨.type "ValueError", none⟩
def mIndex (o : ME) (a : MA) : ME := fun ρ S => (o ρ S).bind fun x S1 => match x with
  | .d (.str z) => (a ρ S1).bind fun xs S2 => match xs with
    | [.d (.str y)] => match Txt.index0 z y with | some k => .ok (.d (.int (k : Nat))) S2 | none => .exc exVal S2
    | _ => .bad
  | _ => .bad
theorem pm_index {o e : Expr} {mo : ME} {ma : MA} {apos cpos : Pos} (hc : X.calm = true) (tk : Takes X W) (ho : PM X W o mo) (ha : PL X W [e] ma)
    (hbase : attributeBase o "index" X.env (eval o X.env) = eval o X.env := by rfl)
    (hfew : ((backTo cpos (starEach [e] X.env)).all (fun x => !x.1) && (backToKw cpos (keywordEach [] X.env)).all (fun x => x.1.isSome) && decide ([e].length + ([] : List Keyword).length + (if ([] : List Keyword).isEmpty then 0 else 1) < 30)) = true := by rfl)
    (hline : (apos.endLine == cpos.line) = true := by rfl) (hs : starEach [e] X.env = (false, eval e X.env) :: starEach [] X.env := by rfl) (hplain : (backTo cpos (starEach [] X.env)).any (·.1) = false := by rfl) :
    PM X W (.Call (.Attribute o "index" apos) [e] [] cpos) (mIndex mo ma) := by
  refine pe_imp (pe_bmS PySem.F.plainAttrs_str PySem.F.slot_str_index PySem.F.type_str_index (mt_indexX hc tk) ho ha hbase hfew hline hs hplain) fun σ H Q ⟨ι, S, ρ, hl, hr, h⟩ => ?_
  refine ⟨ι, S, ρ, hl, hr, step h fun x v ι1 H1 S1 s1 r1 hx h1 => ?_⟩
  split at h1
  · rename_i z
    cases hx
    refine ⟨rfl, ι1, S1, ρ, hl.mono s1, r1, step h1 fun xs vs ι2 H2 S2 s2 r2 hs h2 => ?_⟩
    split at h2
    · rename_i y
      obtain ⟨w, rfl, hy⟩ := one_of hs
      cases hy
      refine ⟨z, y, rfl, rfl, fun k ek => ?_, fun en d => ?_⟩
      · simp only [ek] at h2
        exact h2 _ _ _ (Sub.refl _ _) r2 (.int _)
      · simp only [en] at h2
        exact h2 _ _ d (Sub.refl _ _) r2 trivial
    · exact h2.elim
  · exact h1.elim

/-! ### two names at once -/
def mPar (i j : Nat) (a : MA) : MS := fun ρ S => (a ρ S).go ρ fun xs S1 => match xs with | [x, y] => .nx ((ρ.set i (some x)).set j (some y)) S1 | _ => .bad
theorem pms_par {i j : Nat} {x y : Str} {a b : Expr} {ma : MA} {px py pt pos : Pos} {kt k2 : Nat} {pt2 : Pos} (hc : X.calm = true) (hN : X.N.Nodup) (hi : X.N[i]? = some x) (hj : X.N[j]? = some y) (hij : i ≠ j)
    (hx : X.env.scope.names.lookup x = some .local) (hy : X.env.scope.names.lookup y = some .local) (ha : PL X W [a, b] ma) (h : PS X (.Assign [.Tuple [.Name x px, .Name y py] kt pt] (.Tuple [a, b] k2 pt2) pos) (tPar i j (tG (XVs X.K) X.K W ma))) :
    PMS X W (.Assign [.Tuple [.Name x px, .Name y py] kt pt] (.Tuple [a, b] k2 pt2) pos) (mPar i j ma) := by
  refine ps_imp h fun D σ H ⟨ι, S, ρ, hl, hr, h⟩ => ⟨ι, S, ρ, hl, hr, stepS h hl fun xs vs ι1 H1 S1 s1 r1 hs h1 => ?_⟩
  split at h1
  · obtain ⟨v, u, rfl, q1, q2⟩ := two_of hs
    exact ⟨v, u, rfl, h1 _ _ _ (Sub.refl _ _) r1 (((hl.mono s1).set i q1).set j q2)⟩
  · exact h1.elim

/-! ### calls with keywords -/
def PLK (X : Cx) (W : WX) (kws : List Keyword) (m : MA) : Prop := PK X kws (tG (XVs X.K) X.K W m)
theorem pk_imp {kws : List Keyword} {t t' : TA} (h : PK X kws t) (i : ∀ σ H Q, t' σ H Q → t σ H Q) : PK X kws t' := ⟨fun pos pins s σ H Q I q => h.run pos pins s σ H Q I (i _ _ _ q)⟩
theorem plk_nil : PLK X W [] mNil := pk_imp pk_nil fun σ H Q ⟨ι, S, ρ, hl, hr, h⟩ => h _ _ _ (Sub.refl _ _) hr .nil
theorem plk_cons {nm : Option Str} {e : Expr} {kp : Pos} {kws : List Keyword} {m : ME} {ms : MA} (h : PM X W e m) (hs : PLK X W kws ms) : PLK X W (⟨nm, e, kp⟩ :: kws) (mCons m ms) := by
  refine pk_imp (pk_cons h hs) fun σ H Q ⟨ι, S, ρ, hl, hr, h⟩ => ?_
  refine ⟨ι, S, ρ, hl, hr, step h fun x v ι1 H1 S1 s1 r1 hx h1 => ?_⟩
  refine ⟨ι1, S1, ρ, hl.mono s1, r1, step h1 fun y u ι2 H2 S2 s2 r2 hy h2 => ?_⟩
  exact h2 _ _ _ (Sub.refl _ _) r2 (.cons (hx.mono s2) hy)
/-- how keywords bind -/
theorem fun_bindsG {K : PySem.W.Frag} {x qual : Str} {st : Stmt} {f : Addr} {fd : FuncData} {ps : List Str} (F : Fun K x qual st f fd) {args : Args} {r : List Value} (s : Shared)
    (h : ∀ (kV doc pm : Value) (an : Option Addr) (cdv ct : Value), bindArgs (PySem.W.fnOf x qual (defArgs st) (defBody st) (defScope st) .none kV doc pm an cdv ct) args = pure (ps.zip r)) : BindsTo s fd args (ps.zip r) := by
  obtain ⟨oc, od, kV, doc, pm, an, cdv, ct, osl, rfl, lk, hcd⟩ := F.ex
  exact .of_eq (h kV doc pm an cdv ct)
/-- where an argument comes from: a place, a keyword, a default -/
inductive Sr where
  | p (i : Nat) | k (i : Nat) | v (i : Nat)
def Sr.get {α : Type} (us ws ds : List α) : Sr → Option α
  | .p i => us[i]?
  | .k i => ws[i]?
  | .v i => ds[i]?
def laid {α : Type} (us ws ds : List α) : List Sr → Option (List α)
  | [] => some []
  | o :: r => (o.get us ws ds).bind fun x => (laid us ws ds r).map (x :: ·)
theorem Paired.at' {α β : Type} {F : α → β → Prop} {xs : List α} {ys : List β} (h : Paired F xs ys) {i : Nat} {y : β} (e : ys[i]? = some y) : ∃ x, xs[i]? = some x ∧ F x y := by
  induction h generalizing i with
  | nil => cases e
  | cons r t ih => cases i with
    | zero => cases e; exact ⟨_, rfl, r⟩
    | succ i => exact ih e
theorem laid_ok {α β : Type} {F : α → β → Prop} {us ws ds : List α} {us' ws' ds' : List β} (h1 : Paired F us us') (h2 : Paired F ws ws') (h3 : Paired F ds ds') : ∀ {os : List Sr} {r : List α}, laid us ws ds os = some r → ∃ r', laid us' ws' ds' os = some r' ∧ Paired F r r'
  | [], _, e => by cases e; exact ⟨[], rfl, .nil⟩
  | o :: os, _, e => by
    obtain ⟨x, e1, e2⟩ := Option.bind_eq_some_iff.mp e
    obtain ⟨r, e3, rfl⟩ := Option.map_eq_some_iff.mp e2
    obtain ⟨r', e4, q⟩ := laid_ok h1 h2 h3 e3
    have : ∃ y, o.get us' ws' ds' = some y ∧ F x y := by
      cases o with
      | p i => exact Paired.at h1 e1
      | k i => exact Paired.at h2 e1
      | v i => exact Paired.at h3 e1
    obtain ⟨y, e5, q2⟩ := this
    exact ⟨y :: r', by simp [laid, e5, e4], .cons q2 q⟩
def mCallK (n : Nat) (f : List Mv → Sg → Res Mv) (os : List Sr) (ds : List Mv) (a k : MA) : ME := fun ρ S => (a ρ S).bind fun xs S1 => (k ρ S1).bind fun ys S2 => match laid xs ys ds os with
  | some zs => if frees zs = true ∧ zs.length = n then f zs S2 else .bad
  | none => .bad
section
variable {k : Nat} {f : Addr} {fd : FuncData} {ps ks : List Str} {m : List Mv → Sg → Res Mv} {x : Str} {p pos : Pos} {e : Expr} {es : List Expr} {kws : List Keyword} {ms mk : MA} {ds : List Mv} {dvs : List V} {dus : List Value} {os : List Sr}
theorem callK_want {σ : L2.St} {H : Hp} {Q : VK} (hds : ∀ ι H, XVs X.K ι H ds dvs) (h : tG (XV X.K) X.K W (mCallK ps.length m os ds ms mk) σ H Q) :
    tG (XVs X.K) X.K W ms σ H fun vs H1 => tG (XVs X.K) X.K W mk σ H1 fun zs H2 => ∃ r, laid vs zs dvs os = some r ∧ spM X.K ps.length m r H2 Q (WE W σ) := by
  obtain ⟨ι, S, ρ, hl, hR, h⟩ := h
  refine ⟨ι, S, ρ, hl, hR, step h fun xs vs ι1 H1 S1 s1 r1 hx h1 => ?_⟩
  refine ⟨ι1, S1, ρ, hl.mono s1, r1, step h1 fun ys us ι2 H2 S2 s2 r2 hy h2 => ?_⟩
  cases el : laid xs ys ds os with
  | none => simp only [el] at h2; exact h2.elim
  | some zs =>
    simp only [el] at h2
    by_cases c : frees zs = true ∧ zs.length = ps.length
    · rw [if_pos c] at h2
      obtain ⟨r, e2, pr⟩ := laid_ok (XVs.mono s2 hx) hy (hds ι2 H2) el
      refine ⟨r, e2, ι2, S2, zs, Paired_frees pr c.1, c.2, r2, ?_⟩
      cases e : m zs S2 with
      | ok y S' => rw [e] at h2; exact h2
      | exc y S' => rw [e] at h2; exact h2
      | bad => rw [e] at h2; exact h2
    · rw [if_neg c] at h2; exact h2.elim
/-- f(k = v, ..) -/
theorem pm_callK0 {n : Nat} (F : FnM X.prog X.w X.K X.mg X.base k f fd ps m) (hr : Room k X.A) (gds : X.A.guards = some []) (tk : Takes X W) (hg : Gl X x) (hm : X.mg x = some (.ref f)) (hk : PySem.W.keepIn X.K (.ref f) = true)
    (hb : ∀ (s : Shared) (ws r : List Value), X.K.In s.heap → ws.length = ks.length → laid [] ws dus os = some r → BindsTo s fd ⟨[], ks.zip ws⟩ (ps.zip r)) (hd : Vals dvs dus) (hds : ∀ ι H, XVs X.K ι H ds dvs) (hl : ∀ ρ S xs S', mk ρ S = .ok xs S' → xs.length = ks.length)
    (hkw : PLK X W kws mk) (hn : ps.length = n := by rfl) (hall : (backToKw pos (keywordEach kws X.env)).all (·.1.isSome) = true := by rfl) (hks : (backToKw pos (keywordEach kws X.env)).filterMap (·.1) = ks := by rfl) (hdb : (x == ("__debug__" : Str)) = false := by decide)
    (hpl : ((backTo pos (starEach [] X.env)).any (·.1) || (backToKw pos (keywordEach kws X.env)).any (·.1.isNone)) = false := by rfl) :
    PM X W (.Call (.Name x p) [] kws pos) (mCallK n m os ds mNil mk) := by
  subst hn
  refine ⟨fun pins s σ H Q I want => ?_⟩
  refine wpAny_Call_Name_kw (ld_glob I hg hm ?_ hdb)
  refine PySem.W.callWith_KW0 (h₀ := X.base) I.ok.mod.kin hk hall ?_ hpl
  have want2 : tG (fun ι H xs vs => XVs X.K ι H xs vs ∧ xs.length = ks.length) X.K W mk σ H fun zs H2 => zs.length = ks.length ∧ ∃ r, laid [] zs dvs os = some r ∧ spM X.K ps.length m r H2 Q (WE W σ) := by
    obtain ⟨ι, S, ρ, hL, hR, h⟩ := callK_want hds want
    have h := h _ _ _ (Sub.refl _ _) hR .nil
    obtain ⟨ι, S, ρ, hL, hR, h⟩ := h
    refine ⟨ι, S, ρ, hL, hR, ?_⟩
    cases e : mk ρ S with
    | ok xs S' => rw [e] at h; exact fun ι1 H1 v s r ⟨hx, hn⟩ => ⟨by rw [← hx.length]; exact hn, h _ _ _ s r hx⟩
    | exc _ _ => rw [e] at h; exact h
    | bad => rw [e] at h; exact h
  have want3 : tG (XVs X.K) X.K W mk σ H fun zs H2 => zs.length = ks.length ∧ ∃ r, laid [] zs dvs os = some r ∧ spM X.K ps.length m r H2 Q (WE W σ) := by
    obtain ⟨ι, S, ρ, hL, hR, h⟩ := want2
    refine ⟨ι, S, ρ, hL, hR, ?_⟩
    cases e : mk ρ S with
    | ok xs S' => rw [e] at h; exact fun ι1 H1 v s r hx => h _ _ _ s r ⟨hx, hl _ _ _ _ e⟩
    | exc _ _ => rw [e] at h; exact h
    | bad => rw [e] at h; exact h
  refine thn (hkw.run pos pins s σ H _ I want3) fun ws s2 ⟨zs, H2, I2, rz, ln, r, er, q⟩ => ⟨I2.kIn, ?_⟩
  rw [hks]
  obtain ⟨r', er', rr⟩ := laid_ok (F := RelV) (us := []) (us' := []) .nil rz hd er
  refine wpAny_call (codeAny_mono (run_m F hr gds tk (hb s2 ws r' I2.kIn (by rw [← rz.length]; exact ln) er') I2 rr q) fun res s' got => ?_)
  cases res with
  | error e => exact got
  | ok fl => cases fl <;> exact got
end
end
section
variable {X : Cx} {W : WX}
theorem units65 {k : Nat} {A : Around} (r : Room k A) : A.units + 65 < cLine := by have := r.un; omega
theorem units128 {k : Nat} {A : Around} (r : Room k A) : A.units + 128 < cLine := by have := r.un; omega
theorem units1 {k : Nat} {A : Around} (r : Room k A) : A.units + 1 < cLine := by have := r.un; omega
theorem len_of_nil {ρ : Rho} {S S' : Sg} {xs : List Mv} (h : mNil ρ S = .ok xs S') : xs.length = 0 := by cases h; rfl
theorem len_of_cons {a : ME} {r : MA} {n : Nat} {ρ : Rho} {S S' : Sg} {xs : List Mv} (hr : ∀ ρ S xs S', r ρ S = .ok xs S' → xs.length = n) (h : mCons a r ρ S = .ok xs S') : xs.length = n + 1 := by
  unfold mCons Res.bind at h
  split at h
  · simp only at h
    split at h
    · rename_i e
      cases h
      rw [List.length_cons, hr _ _ _ _ e]
    · cases h
    · cases h
  · cases h
  · cases h
/-- a written negative number -/
def mNeg (a : ME) : ME := fun ρ S => (a ρ S).bind fun x S1 => match x with | .d (.int i) => .ok (.d (.int (-i))) S1 | _ => .bad
theorem pm_neg {a : Expr} {ma : ME} {pos : Pos} (ha : PM X W a ma) : PM X W (.UnaryOp .USub a pos) (mNeg ma) := by
  refine pe_imp (pe_un un_neg ha) fun σ H Q ⟨ι, S, ρ, hl, hr, h⟩ => ⟨ι, S, ρ, hl, hr, step h fun x v ι1 H1 S1 s1 r1 hx h1 => ?_⟩
  split at h1
  · cases hx
    exact ⟨_, rfl, h1 _ _ _ (Sub.refl _ _) r1 (.int _)⟩
  · exact h1.elim
/-- f() -/
def mCall0 (f : List Mv → Sg → Res Mv) : ME := fun _ S => f [] S
theorem pm_call0 {k : Nat} {f : Addr} {fd : FuncData} {m : List Mv → Sg → Res Mv} {x : Str} {p pos : Pos} (F : FnM X.prog X.w X.K X.mg X.base k f fd [] m) (hr : Room k X.A) (gds : X.A.guards = some []) (tk : Takes X W) (hg : Gl X x) (hm : X.mg x = some (.ref f)) (hk : PySem.W.keepIn X.K (.ref f) = true)
    (hb : L2.Binds X.K fd [] []) (hd : Vals ([] : List V) []) (hdb : (x == ("__debug__" : Str)) = false := by decide) : PM X W (.Call (.Name x p) [] [] pos) (mCall0 m) := by
  refine ⟨fun pins s σ H Q I ⟨ι, S, ρ, hl, hR, h⟩ => ?_⟩
  refine wpAny_Call_Name_kw (ld_glob I hg hm ?_ hdb)
  refine PySem.W.callWith_K0 I.kIn hk ?_
  have want : spM X.K 0 m [] H Q (WE W σ) := by
    refine ⟨ι, S, [], .nil, rfl, hR, ?_⟩
    unfold mCall0 at h
    cases e : m [] S with
    | ok y S' => rw [e] at h; exact h
    | exc y S' => rw [e] at h; exact h
    | bad => rw [e] at h; exact h
  refine wpAny_call (codeAny_mono (run_m (ps := []) F hr gds tk (hb s [] I.kIn rfl) I .nil want) fun res s' got => ?_)
  cases res with
  | error e => exact got
  | ok fl => cases fl <;> exact got
end
end MM
end
section
set_option Elab.async false
set_option linter.all false
set_option maxRecDepth 100000
set_option maxHeartbeats 4000000
set_option autoImplicit false
namespace MM.Q
open PySem PySem.Spec PyProof.Rows L2 MM

/-! ### how a mirror is reckoned: every rule is an equation whose right side holds what comes next unapplied -/
section
variable {α β : Type} {ρ : Rho} {S S' : Sg}
theorem bind_ok {x : α} {f : α → Sg → Res β} : (Res.ok x S).bind f = f x S := rfl
theorem bind_exc {e : Ex} {f : α → Sg → Res β} : (Res.exc e S : Res α).bind f = .exc e S := rfl
theorem go_ok {x : α} {f : α → Sg → RS} : (Res.ok x S).go ρ f = f x S := rfl
theorem go_exc {e : Ex} {f : α → Sg → RS} : (Res.exc e S : Res α).go ρ f = .exc e ρ S := rfl
theorem nox_ok {x : α} : (Res.ok x S).nox = .ok x S := rfl
def vr (o : Option (Option Mv)) (S : Sg) : Res Mv := match o with | some (some x) => .ok x S | _ => .bad
theorem vr_some {x : Mv} : vr (some (some x)) S = .ok x S := rfl
theorem ev_var {i : Nat} : mVar i ρ S = vr ρ[i]? S := rfl
theorem ev_c {d : PyData} : mC d ρ S = .ok (.d d) S := rfl
theorem ev_k {x : Mv} : mK x ρ S = .ok x S := rfl
/-! births -/
def frzO (o : Option (List PyData)) (S : Sg) : Res Mv := match o with | some ds => .ok (.d (.list ds)) S | none => .bad
def tupO (o : Option (List PyData)) (xs : List Mv) (S : Sg) : Res Mv := match o with | some ds => .ok (.d (.tuple ds)) S | none => .ok (.ref S.length) (S ++ [(false, .tup xs)])
theorem frzO_some {ds : List PyData} : frzO (some ds) S = .ok (.d (.list ds)) S := rfl
theorem tupO_some {ds : List PyData} {xs : List Mv} : tupO (some ds) xs S = .ok (.d (.tuple ds)) S := rfl
theorem tupO_none {xs : List Mv} : tupO none xs S = .ok (.ref S.length) (S ++ [(false, .tup xs)]) := rfl
theorem bear_val {b : Bi} {z : Mv} : bear b (.val z) S = .ok z S := rfl
theorem bear_frz {xs : List Mv} : bear .frz (.lst xs) S = frzO (allD xs) S := rfl
theorem bear_ref {xs : List Mv} : bear .ref (.lst xs) S = .ok (.ref S.length) (S ++ [(false, .lst xs)]) := rfl
theorem bear_own {xs : List Mv} : bear .own (.lst xs) S = .ok (.own S.length) (S ++ [(true, .lst xs)]) := rfl
theorem bear_tup {b : Bi} {xs : List Mv} : bear b (.tup xs) S = tupO (allD xs) xs S := rfl
theorem allD_nil : allD [] = some [] := rfl
theorem allD_cons {x : PyData} {r : List Mv} : allD (.d x :: r) = (allD r).map (x :: ·) := rfl
theorem allD_map (ds : List PyData) : allD (ds.map .d) = some ds := by
  induction ds with
  | nil => rfl
  | cons x r ih => rw [List.map_cons, allD_cons, ih]; rfl
def bearO (b : Bi) (o : Option Nw) (S : Sg) : Res Mv := opt o fun z => bear b z S
theorem bearO_some {b : Bi} {z : Nw} : bearO b (some z) S = bear b z S := rfl
/-! operators -/
def k2Bin (b : Bi) (g : Sg → Mv → Mv → Option Nw) (x : Mv) : Mv → Sg → Res Mv := fun y S => bearO b (g S x y) S
def k1Bin (b : Bi) (g : Sg → Mv → Mv → Option Nw) (c : ME) (ρ : Rho) : Mv → Sg → Res Mv := fun x S => (c ρ S).bind (k2Bin b g x)
theorem ev_bin {b : Bi} {g : Sg → Mv → Mv → Option Nw} {a c : ME} : mBin b g a c ρ S = (a ρ S).bind (k1Bin b g c ρ) := rfl
theorem ev_bin1 {b : Bi} {g : Sg → Mv → Mv → Option Nw} {c : ME} {x : Mv} : k1Bin b g c ρ x S = (c ρ S).bind (k2Bin b g x) := rfl
theorem ev_bin2 {b : Bi} {g : Sg → Mv → Mv → Option Nw} {x y : Mv} : k2Bin b g x y S = bearO b (g S x y) S := rfl
theorem add_int {i j : Int} : gAdd S (.d (.int i)) (.d (.int j)) = some (.val (.d (.int (i + j)))) := rfl
theorem add_str {a b : Str} (h : a.length + b.length ≤ sizeLine) : gAdd S (.d (.str a)) (.d (.str b)) = some (.val (.d (.str (a ++ b)))) := if_pos h
theorem sub_int {i j : Int} : gSub S (.d (.int i)) (.d (.int j)) = some (.val (.d (.int (i - j)))) := rfl
theorem mul_int {i j : Int} (h : (-(2 ^ 64) < i ∧ i < 2 ^ 64) ∨ (-(2 ^ 64) < j ∧ j < 2 ^ 64)) : gMul S (.d (.int i)) (.d (.int j)) = some (.val (.d (.int (i * j)))) := if_pos h
theorem mul_str {z : Str} {n : Int} (h : -(2 ^ 63) ≤ n ∧ n < 2 ^ 63 ∧ z.length * n.toNat ≤ sizeLine) : gMul S (.d (.str z)) (.d (.int n)) = some (.val (.d (.str (strRep z n.toNat)))) := if_pos h
theorem mod_int {i j : Int} (h : 0 < j) : gMod S (.d (.int i)) (.d (.int j)) = some (.val (.d (.int (i % j)))) := if_pos h
theorem fdiv_int {i j : Int} (h : 0 < j ∧ j < 2 ^ 64) : gFdiv S (.d (.int i)) (.d (.int j)) = some (.val (.d (.int (i / j)))) := if_pos h
theorem pow_int {i j : Int} (h : 0 ≤ j ∧ j ≤ 1000000 ∧ i.natAbs < 2 ^ 64) : gPow S (.d (.int i)) (.d (.int j)) = some (.val (.d (.int (i ^ j.toNat)))) := if_pos h
theorem intB_int {f : Int → Int → Bool} {i j : Int} : gIntB f S (.d (.int i)) (.d (.int j)) = some (.val (.d (.bool (f i j)))) := rfl
def datO (o : Option (Bool × List Mv)) : Option PyData := match o with
  | some (false, xs) => (allD xs).map .list
  | some (true, xs) => (allD xs).map .tuple
  | none => none
theorem datO_f {xs : List Mv} : datO (some (false, xs)) = (allD xs).map .list := rfl
theorem datO_t {xs : List Mv} : datO (some (true, xs)) = (allD xs).map .tuple := rfl
theorem data_d {x : PyData} : Mv.data S (.d x) = some x := rfl
theorem data_ref {i : Nat} : Mv.data S (.ref i) = datO (Mv.seq S (.ref i)) := by
  show (match Mv.seq S (.ref i) with | some (false, xs) => (allD xs).map PyData.list | some (true, xs) => (allD xs).map PyData.tuple | none => none) = _
  cases Mv.seq S (.ref i) with
  | none => rfl
  | some p => obtain ⟨t, xs⟩ := p; cases t <;> rfl
theorem data_own {i : Nat} : Mv.data S (.own i) = datO (Mv.seq S (.own i)) := by
  show (match Mv.seq S (.own i) with | some (false, xs) => (allD xs).map PyData.list | some (true, xs) => (allD xs).map PyData.tuple | none => none) = _
  cases Mv.seq S (.own i) with
  | none => rfl
  | some p => obtain ⟨t, xs⟩ := p; cases t <;> rfl
def eqC (neg : Bool) (d e : PyData) : Option Nw := if SeqAt.shaped d = true ∧ SeqAt.shaped e = true then some (.val (.d (.bool (if neg then !PyData.eqv d e else PyData.eqv d e)))) else none
def eqO (neg : Bool) (o p : Option PyData) : Option Nw := match o, p with | some d, some e => eqC neg d e | _, _ => none
theorem ev_eq {neg : Bool} {x y : Mv} : gEqN neg S x y = eqO neg (x.data S) (y.data S) := rfl
theorem eqO_some {neg : Bool} {d e : PyData} : eqO neg (some d) (some e) = eqC neg d e := rfl
theorem eqC_t {d e : PyData} (s1 : SeqAt.shaped d = true) (s2 : SeqAt.shaped e = true) : eqC true d e = some (.val (.d (.bool (!PyData.eqv d e)))) := if_pos ⟨s1, s2⟩
theorem eqC_f {d e : PyData} (s1 : SeqAt.shaped d = true) (s2 : SeqAt.shaped e = true) : eqC false d e = some (.val (.d (.bool (PyData.eqv d e)))) := if_pos ⟨s1, s2⟩
theorem shaped_int {i : Int} : SeqAt.shaped (.int i) = true := by simp [SeqAt.shaped, PyData.canLay0, PyData.depth]
theorem shaped_bool {i : Bool} : SeqAt.shaped (.bool i) = true := by simp [SeqAt.shaped, PyData.canLay0, PyData.depth]
theorem shaped_none : SeqAt.shaped .none = true := by simp [SeqAt.shaped, PyData.canLay0, PyData.depth]
theorem shaped_str {z : Str} : SeqAt.shaped (.str z) = PyData.strOk z := by simp [SeqAt.shaped, PyData.canLay0, PyData.depth]
theorem shaped_nil : SeqAt.shaped (.list []) = true := by simp [SeqAt.shaped, PyData.canLay0, PyData.canLayAll0, PyData.depth, PyData.depthAll]
theorem flat_depth {xs : List PyData} (h : ∀ x ∈ xs, x.depth = 0) : PyData.depthAll xs = 0 := by
  induction xs with
  | nil => rfl
  | cons x r ih => simp only [PyData.depthAll]; rw [h x (List.mem_cons_self ..), ih fun y hy => h y (List.mem_cons_of_mem _ hy)]; rfl
theorem flat_lay {xs : List PyData} (h : ∀ x ∈ xs, x.canLay0 = true) : PyData.canLayAll0 xs = true := by
  induction xs with
  | nil => rfl
  | cons x r ih => simp only [PyData.canLayAll0]; rw [h x (List.mem_cons_self ..), ih fun y hy => h y (List.mem_cons_of_mem _ hy)]; rfl
theorem shaped_flat {xs : List PyData} (h : ∀ x ∈ xs, x.canLay0 = true ∧ x.depth = 0) : SeqAt.shaped (.list xs) = true ∧ SeqAt.shaped (.tuple xs) = true := by
  have h1 := flat_lay fun x hx => (h x hx).1
  have h2 := flat_depth fun x hx => (h x hx).2
  simp [SeqAt.shaped, PyData.canLay0, PyData.depth, h1, h2]
theorem shaped_ints {xs : List Int} : SeqAt.shaped (.list (xs.map .int)) = true := (shaped_flat fun x hx => by
  obtain ⟨n, _, rfl⟩ := List.mem_map.mp hx
  simp [PyData.canLay0, PyData.depth]).1
theorem eqv_nil {xs : List PyData} : PyData.eqv (.list xs) (.list []) = xs.isEmpty := by cases xs <;> simp [PyData.eqv, PyData.eqvAll]
theorem eqv_int {i j : Int} : PyData.eqv (.int i) (.int j) = (i == j) := by simp [PyData.eqv]
theorem eqv_str {i j : Str} : PyData.eqv (.str i) (.str j) = (i == j) := by simp [PyData.eqv]
theorem eqv_bool {i j : Bool} : PyData.eqv (.bool i) (.bool j) = (i == j) := by simp [PyData.eqv]
theorem in_str {i j : Str} : gInN false S (.d (.str i)) (.d (.str j)) = some (.val (.d (.bool (inStr i j)))) := rfl
theorem notIn_str {i j : Str} : gInN true S (.d (.str i)) (.d (.str j)) = some (.val (.d (.bool (!inStr i j)))) := rfl
theorem is_bool {a b : Bool} : gIsN false S (.d (.bool a)) (.d (.bool b)) = some (.val (.d (.bool (decide (a = b))))) := rfl
theorem isnot_bool {a b : Bool} : gIsN true S (.d (.bool a)) (.d (.bool b)) = some (.val (.d (.bool (!decide (a = b))))) := rfl
/-! truth -/
def tstO (x : Mv) (S : Sg) : Res Bool := match x with | .d (.bool b) => .ok b S | _ => .bad
theorem tst_bool {b : Bool} : tstO (.d (.bool b)) S = .ok b S := rfl
theorem ev_tst {m : ME} : mTst m ρ S = (m ρ S).bind tstO := rfl
def truO (o : Option Bool) (S : Sg) : Res Bool := match o with | some k => .ok k S | none => .bad
def kTru : Mv → Sg → Res Bool := fun x S => truO (x.truth S) S
theorem ev_truth {m : ME} : mTruth m ρ S = (m ρ S).bind kTru := rfl
theorem ev_tru {x : Mv} : kTru x S = truO (x.truth S) S := rfl
theorem truO_some {k : Bool} : truO (some k) S = .ok k S := rfl
theorem truth_bool {b : Bool} : Mv.truth S (.d (.bool b)) = some b := rfl
theorem truth_int {i : Int} : Mv.truth S (.d (.int i)) = some (i != 0) := rfl
theorem truth_none : Mv.truth S (.d .none) = some false := rfl
theorem truth_list {xs : List PyData} : Mv.truth S (.d (.list xs)) = some (!xs.isEmpty) := rfl
theorem truth_tup {xs : List PyData} : Mv.truth S (.d (.tuple xs)) = some (!xs.isEmpty) := rfl
def kAndB (b : MT) (ρ : Rho) : Bool → Sg → Res Bool := fun k S => if k = true then b ρ S else .ok false S
def kOrB (b : MT) (ρ : Rho) : Bool → Sg → Res Bool := fun k S => if k = true then .ok true S else b ρ S
def kNotB : Bool → Sg → Res Bool := fun k S => .ok (!k) S
theorem ev_andB {a b : MT} : mAndB a b ρ S = (a ρ S).bind (kAndB b ρ) := rfl
theorem ev_orB {a b : MT} : mOrB a b ρ S = (a ρ S).bind (kOrB b ρ) := rfl
theorem ev_notB {a : MT} : mNotB a ρ S = (a ρ S).bind kNotB := rfl
theorem andB_t {b : MT} : kAndB b ρ true S = b ρ S := rfl
theorem andB_f {b : MT} : kAndB b ρ false S = .ok false S := rfl
theorem orB_t {b : MT} : kOrB b ρ true S = .ok true S := rfl
theorem orB_f {b : MT} : kOrB b ρ false S = b ρ S := rfl
theorem ev_notB1 {k : Bool} : kNotB k S = .ok (!k) S := rfl
def kAnd (b : ME) (ρ : Rho) : Mv → Sg → Res Mv := fun x S => match x.truth S with | some true => b ρ S | some false => .ok x S | none => .bad
def kOr (b : ME) (ρ : Rho) : Mv → Sg → Res Mv := fun x S => match x.truth S with | some false => b ρ S | some true => .ok x S | none => .bad
theorem ev_and {a b : ME} : mAnd a b ρ S = (a ρ S).bind (kAnd b ρ) := rfl
theorem ev_or {a b : ME} : mOr a b ρ S = (a ρ S).bind (kOr b ρ) := rfl
theorem and_t {b : ME} {x : Mv} (h : x.truth S = some true) : kAnd b ρ x S = b ρ S := by unfold kAnd; rw [h]
theorem and_f {b : ME} {x : Mv} (h : x.truth S = some false) : kAnd b ρ x S = .ok x S := by unfold kAnd; rw [h]
theorem or_t {b : ME} {x : Mv} (h : x.truth S = some true) : kOr b ρ x S = .ok x S := by unfold kOr; rw [h]
theorem or_f {b : ME} {x : Mv} (h : x.truth S = some false) : kOr b ρ x S = b ρ S := by unfold kOr; rw [h]
theorem and_tB {b : ME} : kAnd b ρ (.d (.bool true)) S = b ρ S := rfl
theorem and_fB {b : ME} : kAnd b ρ (.d (.bool false)) S = .ok (.d (.bool false)) S := rfl
theorem or_tB {b : ME} : kOr b ρ (.d (.bool true)) S = .ok (.d (.bool true)) S := rfl
theorem or_fB {b : ME} : kOr b ρ (.d (.bool false)) S = b ρ S := rfl
def notO (o : Option Bool) (S : Sg) : Res Mv := match o with | some k => .ok (.d (.bool (!k))) S | none => .bad
def kNot : Mv → Sg → Res Mv := fun x S => notO (x.truth S) S
theorem ev_not {a : ME} : mNot a ρ S = (a ρ S).bind kNot := by
  unfold mNot
  congr 1
theorem ev_not1 {x : Mv} : kNot x S = notO (x.truth S) S := rfl
theorem notO_some {k : Bool} : notO (some k) S = .ok (.d (.bool (!k))) S := rfl
def kIfE (a b : ME) (ρ : Rho) : Bool → Sg → Res Mv := fun k S => if k = true then a ρ S else b ρ S
theorem ev_ifE {c : MT} {a b : ME} : mIf c a b ρ S = (c ρ S).bind (kIfE a b ρ) := rfl
theorem ifE_t {a b : ME} : kIfE a b ρ true S = a ρ S := rfl
theorem ifE_f {a b : ME} : kIfE a b ρ false S = b ρ S := rfl
/-! arguments, displays -/
def k2Cons (x : Mv) : List Mv → Sg → Res (List Mv) := fun xs S => .ok (x :: xs) S
def k1Cons (r : MA) (ρ : Rho) : Mv → Sg → Res (List Mv) := fun x S => (r ρ S).bind (k2Cons x)
theorem ev_nil : mNil ρ S = .ok [] S := rfl
theorem ev_cons {a : ME} {r : MA} : mCons a r ρ S = (a ρ S).bind (k1Cons r ρ) := rfl
theorem ev_cons1 {r : MA} {x : Mv} : k1Cons r ρ x S = (r ρ S).bind (k2Cons x) := rfl
theorem ev_cons2 {x : Mv} {xs : List Mv} : k2Cons x xs S = .ok (x :: xs) S := rfl
def kDisp (b : Bi) (tup : Bool) : List Mv → Sg → Res Mv := fun xs S => if frees xs = true ∧ xs.length ≤ sizeLine then bear b (if tup = true then .tup xs else .lst xs) S else .bad
theorem ev_disp {b : Bi} {tup : Bool} {a : MA} : mDisp b tup a ρ S = (a ρ S).bind (kDisp b tup) := rfl
theorem disp_lst {b : Bi} {xs : List Mv} (h : frees xs = true) (h2 : xs.length ≤ sizeLine) : kDisp b false xs S = bear b (.lst xs) S := if_pos ⟨h, h2⟩
theorem disp_tup {b : Bi} {xs : List Mv} (h : frees xs = true) (h2 : xs.length ≤ sizeLine) : kDisp b true xs S = bear b (.tup xs) S := if_pos ⟨h, h2⟩
theorem frees_nil : frees [] = true := rfl
theorem frees_cons {x : Mv} {xs : List Mv} : frees (x :: xs) = (x.free && frees xs) := rfl
theorem free_d {x : PyData} : Mv.free (.d x) = true := rfl
theorem free_ref {i : Nat} : Mv.free (.ref i) = true := rfl
theorem free_adr {i : Addr} : Mv.free (.adr i) = true := rfl
/-- whole numbers as values -/
def dI (xs : List Int) : List Mv := (xs.map PyData.int).map .d
theorem dI_snoc {xs : List Int} {x : Int} : dI (xs ++ [x]) = dI xs ++ [.d (.int x)] := by simp [dI]
theorem dI_len {xs : List Int} : (dI xs).length = xs.length := by simp [dI]
theorem allD_dI {xs : List Int} : allD (dI xs) = some (xs.map .int) := allD_map _
theorem dI_nil : dI [] = [] := rfl
theorem allD_dIs {xs : List Int} {x : Int} : allD (dI xs ++ [.d (.int x)]) = some ((xs ++ [x]).map .int) := by rw [← dI_snoc, allD_dI]
theorem frees_map (ds : List PyData) : frees (ds.map .d) = true := by
  induction ds with
  | nil => rfl
  | cons x r ih => rw [List.map_cons, frees_cons, ih]; rfl
/-! calls -/
def kCB (b : Bi) (g : Sg → List Mv → Option Nw) : List Mv → Sg → Res Mv := fun xs S => bearO b (g S xs) S
theorem ev_cb {b : Bi} {g : Sg → List Mv → Option Nw} {a : MA} : mCB b g a ρ S = (a ρ S).bind (kCB b g) := rfl
theorem ev_cb1 {b : Bi} {g : Sg → List Mv → Option Nw} {xs : List Mv} : kCB b g xs S = bearO b (g S xs) S := rfl
def kCall (n : Nat) (f : List Mv → Sg → Res Mv) (ds : List Mv) : List Mv → Sg → Res Mv := fun xs S => if frees xs = true ∧ (xs ++ ds).length = n then f (xs ++ ds) S else .bad
theorem ev_call {n : Nat} {f : List Mv → Sg → Res Mv} {ds : List Mv} {a : MA} : mCall n f ds a ρ S = (a ρ S).bind (kCall n f ds) := rfl
theorem ev_call1 {n : Nat} {f : List Mv → Sg → Res Mv} {ds xs : List Mv} (h : frees xs = true) (h2 : (xs ++ ds).length = n) : kCall n f ds xs S = f (xs ++ ds) S := if_pos ⟨h, h2⟩
theorem ev_call0 {f : List Mv → Sg → Res Mv} : mCall0 f ρ S = f [] S := rfl
def lddO (n : Nat) (f : List Mv → Sg → Res Mv) (o : Option (List Mv)) (S : Sg) : Res Mv := match o with
  | some zs => if frees zs = true ∧ zs.length = n then f zs S else .bad
  | none => .bad
def k2CallK (n : Nat) (f : List Mv → Sg → Res Mv) (os : List Sr) (ds xs : List Mv) : List Mv → Sg → Res Mv := fun ys S => lddO n f (laid xs ys ds os) S
def k1CallK (n : Nat) (f : List Mv → Sg → Res Mv) (os : List Sr) (ds : List Mv) (k : MA) (ρ : Rho) : List Mv → Sg → Res Mv := fun xs S => (k ρ S).bind (k2CallK n f os ds xs)
theorem ev_callK {n : Nat} {f : List Mv → Sg → Res Mv} {os : List Sr} {ds : List Mv} {a k : MA} : mCallK n f os ds a k ρ S = (a ρ S).bind (k1CallK n f os ds k ρ) := by
  unfold mCallK
  congr 1
theorem ev_callK1 {n : Nat} {f : List Mv → Sg → Res Mv} {os : List Sr} {ds xs : List Mv} {k : MA} : k1CallK n f os ds k ρ xs S = (k ρ S).bind (k2CallK n f os ds xs) := rfl
theorem ev_callK2 {n : Nat} {f : List Mv → Sg → Res Mv} {os : List Sr} {ds xs ys : List Mv} : k2CallK n f os ds xs ys S = lddO n f (laid xs ys ds os) S := rfl
theorem ldd_some {n : Nat} {f : List Mv → Sg → Res Mv} {zs : List Mv} (h : frees zs = true) (h2 : zs.length = n) : lddO n f (some zs) S = f zs S := if_pos ⟨h, h2⟩
theorem laid_nil {us ws ds : List Mv} : laid us ws ds [] = some [] := rfl
theorem laid_k {us ws ds : List Mv} {i : Nat} {r : List Sr} : laid us ws ds (.k i :: r) = (ws[i]?).bind fun x => (laid us ws ds r).map (x :: ·) := rfl
theorem laid_p {us ws ds : List Mv} {i : Nat} {r : List Sr} : laid us ws ds (.p i :: r) = (us[i]?).bind fun x => (laid us ws ds r).map (x :: ·) := rfl
theorem laid_v {us ws ds : List Mv} {i : Nat} {r : List Sr} : laid us ws ds (.v i :: r) = (ds[i]?).bind fun x => (laid us ws ds r).map (x :: ·) := rfl
/-! subscripts, slices -/
def ixO (o : Option Mv) (S : Sg) : Res Mv := match o with | some z => .ok z S | none => .bad
theorem ixO_some {z : Mv} : ixO (some z) S = .ok z S := rfl
def k2Ix (x : Mv) : Mv → Sg → Res Mv := fun y S => ixO (gIx S x y) S
def k1Ix (b : ME) (ρ : Rho) : Mv → Sg → Res Mv := fun x S => (b ρ S).bind (k2Ix x)
theorem ev_ix {a b : ME} : mIx a b ρ S = (a ρ S).bind (k1Ix b ρ) := rfl
theorem ev_ix1 {b : ME} {x : Mv} : k1Ix b ρ x S = (b ρ S).bind (k2Ix x) := rfl
theorem ev_ix2 {x y : Mv} : k2Ix x y S = ixO (gIx S x y) S := rfl
theorem ix_str {z : Str} {i : Int} (h : z.length ≤ sizeLine) : gIx S (.d (.str z)) (.d (.int i)) = (atI z.cps.toList i).map fun c => .d (.str ⟨#[c]⟩) := if_pos h
theorem ix_list {xs : List PyData} {i : Int} : gIx S (.d (.list xs)) (.d (.int i)) = atI (xs.map .d) i := rfl
theorem ix_tup {xs : List PyData} {i : Int} : gIx S (.d (.tuple xs)) (.d (.int i)) = atI (xs.map .d) i := rfl
/-- what a cell tells as a sequence -/
def refS (fl : Bool) (o : Option (Bool × Mo)) : Option (Bool × List Mv) := match o with
  | some (c, .lst xs) => if c = fl then some (false, xs) else none
  | some (c, .tup xs) => if c = fl then some (true, xs) else none
  | _ => none
theorem refS_lst {fl : Bool} {xs : List Mv} : refS fl (some (fl, .lst xs)) = some (false, xs) := if_pos rfl
theorem refS_tup {fl : Bool} {xs : List Mv} : refS fl (some (fl, .tup xs)) = some (true, xs) := if_pos rfl
theorem seq_ref {i : Nat} : Mv.seq S (.ref i) = refS false S[i]? := by
  simp only [Mv.seq]
  cases S[i]? with
  | none => rfl
  | some p => obtain ⟨c, o⟩ := p; cases o <;> cases c <;> rfl
theorem seq_own {i : Nat} : Mv.seq S (.own i) = refS true S[i]? := by
  simp only [Mv.seq]
  cases S[i]? with
  | none => rfl
  | some p => obtain ⟨c, o⟩ := p; cases o <;> cases c <;> rfl
theorem seq_list {xs : List PyData} : Mv.seq S (.d (.list xs)) = some (false, xs.map .d) := rfl
theorem seq_tup {xs : List PyData} : Mv.seq S (.d (.tuple xs)) = some (true, xs.map .d) := rfl
def ixK (i : Int) (o : Option (Bool × List Mv)) : Option Mv := match o with | some q => atI q.2 i | none => none
theorem ixK_some {i : Int} {b : Bool} {xs : List Mv} : ixK i (some (b, xs)) = atI xs i := rfl
theorem ix_ref {j : Nat} {i : Int} : gIx S (.ref j) (.d (.int i)) = ixK i (Mv.seq S (.ref j)) := by
  show (Mv.seq S (.ref j)).bind _ = _
  cases Mv.seq S (.ref j) <;> rfl
theorem ix_own {j : Nat} {i : Int} : gIx S (.own j) (.d (.int i)) = ixK i (Mv.seq S (.own j)) := by
  show (Mv.seq S (.own j)).bind _ = _
  cases Mv.seq S (.own j) <;> rfl
def listO (o : Option (Bool × List Mv)) : Option (List Mv) := match o with | some (false, xs) => some xs | _ => none
theorem listO_f {xs : List Mv} : listO (some (false, xs)) = some xs := rfl
theorem ev_list {x : Mv} : x.isList S = listO (x.seq S) := rfl
theorem at0 {α : Type} {x : α} {r : List α} : atI (x :: r) 0 = some x := by
  unfold atI ixN; rw [if_pos (by omega), if_pos (by rw [List.length_cons]; omega)]; rfl
theorem at1 {α : Type} {x y : α} {r : List α} : atI (x :: y :: r) 1 = some y := by
  unfold atI ixN; rw [if_pos (by omega), if_pos (by simp only [List.length_cons]; omega)]; rfl
theorem at2 {α : Type} {x y z : α} {r : List α} : atI (x :: y :: z :: r) 2 = some z := by
  unfold atI ixN; rw [if_pos (by omega), if_pos (by simp only [List.length_cons]; omega)]; rfl
theorem at3 {α : Type} {x y z u : α} {r : List α} : atI (x :: y :: z :: u :: r) 3 = some u := by
  unfold atI ixN; rw [if_pos (by omega), if_pos (by simp only [List.length_cons]; omega)]; rfl
theorem at4 {α : Type} {x y z u v : α} {r : List α} : atI (x :: y :: z :: u :: v :: r) 4 = some v := by
  unfold atI ixN; rw [if_pos (by omega), if_pos (by simp only [List.length_cons]; omega)]; rfl
theorem atI_nat {α : Type} {xs : List α} {i : Int} (h0 : 0 ≤ i) (h1 : i < xs.length) : atI xs i = xs[i.toNat]? := by
  unfold atI ixN; rw [if_pos h0, if_pos h1]; rfl
theorem ixN0 {n : Nat} : ixN (n + 1) 0 = some 0 := by unfold ixN; rw [if_pos (by omega), if_pos (by omega)]; rfl
theorem ixN1 {n : Nat} : ixN (n + 1 + 1) 1 = some 1 := by unfold ixN; rw [if_pos (by omega), if_pos (by omega)]; rfl
theorem ixN2 {n : Nat} : ixN (n + 1 + 1 + 1) 2 = some 2 := by unfold ixN; rw [if_pos (by omega), if_pos (by omega)]; rfl
theorem ev_oN : mON ρ S = .ok none S := rfl
def kOS (x : Mv) (S : Sg) : Res (Option Int) := match x with | .d (.int i) => .ok (some i) S | _ => .bad
theorem ev_oS {m : ME} : mOS m ρ S = (m ρ S).bind kOS := rfl
theorem oS_int {i : Int} : kOS (.d (.int i)) S = .ok (some i) S := rfl
def k3Sl (b : Bi) (x : Mv) (l : Option Int) : Option Int → Sg → Res Mv := fun u S => bearO b (gSl S x l u) S
def k2Sl (b : Bi) (x : Mv) (hi : MO) (ρ : Rho) : Option Int → Sg → Res Mv := fun l S => (hi ρ S).bind (k3Sl b x l)
def k1Sl (b : Bi) (lo hi : MO) (ρ : Rho) : Mv → Sg → Res Mv := fun x S => (lo ρ S).bind (k2Sl b x hi ρ)
theorem ev_sl {b : Bi} {a : ME} {lo hi : MO} : mSl b a lo hi ρ S = (a ρ S).bind (k1Sl b lo hi ρ) := rfl
theorem ev_sl1 {b : Bi} {lo hi : MO} {x : Mv} : k1Sl b lo hi ρ x S = (lo ρ S).bind (k2Sl b x hi ρ) := rfl
theorem ev_sl2 {b : Bi} {hi : MO} {x : Mv} {l : Option Int} : k2Sl b x hi ρ l S = (hi ρ S).bind (k3Sl b x l) := rfl
theorem ev_sl3 {b : Bi} {x : Mv} {l u : Option Int} : k3Sl b x l u S = bearO b (gSl S x l u) S := rfl
theorem sl_txt {z : Str} {l u : Option Int} (h : z.length ≤ sizeLine) : gSl S (.d (.str z)) l u = some (.val (.d (.str (cutS z l u)))) := if_pos h
theorem sl_lst {xs : List PyData} {l u : Option Int} : gSl S (.d (.list xs)) l u = some (.lst (cutM (xs.map .d) l u)) := rfl
def kRev (b : Bi) : Mv → Sg → Res Mv := fun x S => match x with
  | .d (.str z) => if z.length ≤ sizeLine then .ok (.d (.str (revS z))) S else .bad
  | x => match x.isList S with | some xs => bear b (.lst xs.reverse) S | none => .bad
theorem ev_rev {b : Bi} {m : ME} : mRev b m ρ S = (m ρ S).bind (kRev b) := by
  unfold mRev
  congr 1
theorem rev_str {b : Bi} {z : Str} (h : z.length ≤ sizeLine) : kRev b (.d (.str z)) S = .ok (.d (.str (revS z))) S := if_pos h
theorem rev_list {b : Bi} {xs : List PyData} : kRev b (.d (.list xs)) S = bear b (.lst (xs.map Mv.d).reverse) S := rfl
/-! methods -/
def k2BM (b : Bi) (g : Sg → Mv → List Mv → Option Nw) (x : Mv) : List Mv → Sg → Res Mv := fun xs S => bearO b (g S x xs) S
def k1BM (b : Bi) (T : String) (g : Sg → Mv → List Mv → Option Nw) (a : MA) (ρ : Rho) : Mv → Sg → Res Mv := fun x S => if tyM T x S = true then (a ρ S).bind (k2BM b g x) else .bad
theorem ev_bm {b : Bi} {T : String} {g : Sg → Mv → List Mv → Option Nw} {o : ME} {a : MA} : mBM b T g o a ρ S = (o ρ S).bind (k1BM b T g a ρ) := rfl
def cBM (c : Bool) (b : Bi) (g : Sg → Mv → List Mv → Option Nw) (a : MA) (ρ : Rho) (x : Mv) (S : Sg) : Res Mv := if c = true then (a ρ S).bind (k2BM b g x) else .bad
theorem ev_bm1 {b : Bi} {T : String} {g : Sg → Mv → List Mv → Option Nw} {a : MA} {x : Mv} : k1BM b T g a ρ x S = cBM (tyM T x S) b g a ρ x S := rfl
theorem cBM_t {b : Bi} {g : Sg → Mv → List Mv → Option Nw} {a : MA} {x : Mv} : cBM true b g a ρ x S = (a ρ S).bind (k2BM b g x) := rfl
theorem ev_bm2 {b : Bi} {g : Sg → Mv → List Mv → Option Nw} {x : Mv} {xs : List Mv} : k2BM b g x xs S = bearO b (g S x xs) S := rfl
def buO (o : Option (Mv × Sg)) : Res Mv := match o with | some (z, S') => .ok z S' | none => .bad
theorem buO_some {z : Mv} : buO (some (z, S)) = .ok z S := rfl
def k2BU (g : Sg → Mv → List Mv → Option (Mv × Sg)) (x : Mv) : List Mv → Sg → Res Mv := fun xs S => buO (g S x xs)
def k1BU (T : String) (g : Sg → Mv → List Mv → Option (Mv × Sg)) (a : MA) (ρ : Rho) : Mv → Sg → Res Mv := fun x S => if tyM T x S = true then (a ρ S).bind (k2BU g x) else .bad
theorem ev_bu {T : String} {g : Sg → Mv → List Mv → Option (Mv × Sg)} {o : ME} {a : MA} : mBU T g o a ρ S = (o ρ S).bind (k1BU T g a ρ) := rfl
def cBU (c : Bool) (g : Sg → Mv → List Mv → Option (Mv × Sg)) (a : MA) (ρ : Rho) (x : Mv) (S : Sg) : Res Mv := if c = true then (a ρ S).bind (k2BU g x) else .bad
theorem ev_bu1 {T : String} {g : Sg → Mv → List Mv → Option (Mv × Sg)} {a : MA} {x : Mv} : k1BU T g a ρ x S = cBU (tyM T x S) g a ρ x S := rfl
theorem cBU_t {g : Sg → Mv → List Mv → Option (Mv × Sg)} {a : MA} {x : Mv} : cBU true g a ρ x S = (a ρ S).bind (k2BU g x) := rfl
theorem ev_bu2 {g : Sg → Mv → List Mv → Option (Mv × Sg)} {x : Mv} {xs : List Mv} : k2BU g x xs S = buO (g S x xs) := rfl
theorem ty_str {T : String} {z : Str} : tyM T (.d (.str z)) S = (T == "str") := rfl
def tyO (T : String) (o : Option (List Mv)) : Bool := match o with | some _ => T == "list" | none => false
theorem tyO_some {T : String} {xs : List Mv} : tyO T (some xs) = (T == "list") := rfl
theorem ty_ref {T : String} {i : Nat} : tyM T (.ref i) S = tyO T (Mv.isList S (.ref i)) := rfl
theorem ty_own {T : String} {i : Nat} : tyM T (.own i) S = tyO T (Mv.isList S (.own i)) := rfl
theorem ty_list {T : String} {xs : List PyData} : tyM T (.d (.list xs)) S = (T == "list") := rfl
theorem beq_ll : (("list" : String) == "list") = true := by decide
theorem beq_ss : (("str" : String) == "str") = true := by decide
def celO (fl : Bool) (i : Nat) (o : Option (Bool × Mo)) : Option (Nat × Bool × Mo) := match o with | some (c, o) => if c = fl then some (i, fl, o) else none | none => none
theorem celO_some {fl : Bool} {i : Nat} {o : Mo} : celO fl i (some (fl, o)) = some (i, fl, o) := if_pos rfl
theorem cell_ref {i : Nat} : Mv.cell S (.ref i) = celO false i S[i]? := by
  unfold Mv.cell; simp only
  cases S[i]? with
  | none => rfl
  | some p => obtain ⟨c, o⟩ := p; cases c <;> rfl
theorem cell_own {i : Nat} : Mv.cell S (.own i) = celO true i S[i]? := by
  unfold Mv.cell; simp only
  cases S[i]? with
  | none => rfl
  | some p => obtain ⟨c, o⟩ := p; cases c <;> rfl
def appO (o : Option (Nat × Bool × Mo)) (y : Mv) (S : Sg) : Option (Mv × Sg) := match o with
  | some (i, b, .lst zs) => if y.free = true ∧ zs.length < sizeLine then some (.d .none, S.set i (b, .lst (zs ++ [y]))) else none
  | _ => none
theorem ev_append {x y : Mv} : uAppend S x [y] = appO (x.cell S) y S := rfl
theorem appO_some {y : Mv} {i : Nat} {b : Bool} {zs : List Mv} (h1 : y.free = true) (h2 : zs.length < sizeLine) : appO (some (i, b, .lst zs)) y S = some (.d .none, S.set i (b, .lst (zs ++ [y]))) := if_pos ⟨h1, h2⟩
def extO (o : Option (Nat × Bool × Mo)) (p : Option (List Mv)) (S : Sg) : Option (Mv × Sg) := match o, p with
  | some (i, b, .lst zs), some ys => if zs.length + ys.length ≤ sizeLine then some (.d .none, S.set i (b, .lst (zs ++ ys))) else none
  | _, _ => none
theorem ev_extend {x y : Mv} : uExtend S x [y] = extO (x.cell S) (y.isList S) S := rfl
theorem extO_some {i : Nat} {b : Bool} {zs ys : List Mv} (h2 : zs.length + ys.length ≤ sizeLine) : extO (some (i, b, .lst zs)) (some ys) S = some (.d .none, S.set i (b, .lst (zs ++ ys))) := if_pos h2
def popO (o : Option (Nat × Bool × Mo)) (S : Sg) : Option (Mv × Sg) := match o with
  | some (i, b, .lst zs) => (zs[zs.length - 1]?).map fun y => (y, S.set i (b, .lst zs.dropLast))
  | _ => none
theorem ev_pop {x : Mv} : uPop S x [] = popO (x.cell S) S := rfl
theorem popO_snoc {i : Nat} {b : Bool} {zs : List Mv} {y : Mv} : popO (some (i, b, .lst (zs ++ [y]))) S = some (y, S.set i (b, .lst zs)) := by
  unfold popO; simp
def k2Ind (z : Str) (xs : List Mv) (S : Sg) : Res Mv := match xs with
  | [.d (.str y)] => match Txt.index0 z y with | some k => .ok (.d (.int (k : Nat))) S | none => .exc exVal S
  | _ => .bad
def k1Ind (a : MA) (ρ : Rho) : Mv → Sg → Res Mv := fun x S => match x with
  | .d (.str z) => (a ρ S).bind (k2Ind z)
  | _ => .bad
theorem ev_ind {o : ME} {a : MA} : mIndex o a ρ S = (o ρ S).bind (k1Ind a ρ) := rfl
theorem ev_ind1 {a : MA} {z : Str} : k1Ind a ρ (.d (.str z)) S = (a ρ S).bind (k2Ind z) := rfl
theorem ind_some {z y : Str} {k : Nat} (h : Txt.index0 z y = some k) : k2Ind z [.d (.str y)] S = .ok (.d (.int (k : Nat))) S := by unfold k2Ind; simp only; rw [h]
def negO (x : Mv) (S : Sg) : Res Mv := match x with | .d (.int i) => .ok (.d (.int (-i))) S | _ => .bad
theorem ev_neg {a : ME} : mNeg a ρ S = (a ρ S).bind negO := rfl
theorem neg_int {i : Int} : negO (.d (.int i)) S = .ok (.d (.int (-i))) S := rfl
/-! walks -/
def itO (o : Option (List Mv)) (S : Sg) : Res (List Mv) := match o with | some xs => .ok xs S | none => .bad
def kIt : Mv → Sg → Res (List Mv) := fun x S => itO x.items S
theorem ev_iter {m : ME} : mIter m ρ S = (m ρ S).bind kIt := rfl
theorem ev_it {x : Mv} : kIt x S = itO x.items S := rfl
theorem itO_some {xs : List Mv} : itO (some xs) S = .ok xs S := rfl
theorem items_list {xs : List PyData} : Mv.items (.d (.list xs)) = some (xs.map .d) := rfl
theorem items_tup {xs : List PyData} : Mv.items (.d (.tuple xs)) = some (xs.map .d) := rfl
theorem items_str {z : Str} : Mv.items (.d (.str z)) = some (signs z) := rfl
def kRg1 : List Mv → Sg → Res (List Mv) := fun xs S => match xs with | [.d (.int j)] => if -(2 ^ 62) ≤ j ∧ j < 2 ^ 62 then .ok (rangeL 0 j.toNat) S else .bad | _ => .bad
theorem ev_rg1 {a : MA} : mRange1 a ρ S = (a ρ S).bind kRg1 := rfl
theorem rg1_int {j : Int} (h : -(2 ^ 62) ≤ j ∧ j < 2 ^ 62) : kRg1 [.d (.int j)] S = .ok (rangeL 0 j.toNat) S := if_pos h
def k2Lc (b : Bi) : List Mv → Sg → Res Mv := fun acc S => bear b (.lst acc) S
def k1Lc (b : Bi) (g : MG) (tt : MT) (te : ME) (vs : List Nat) (ρ : Rho) : List Mv → Sg → Res Mv := fun xs S => (lcLoop g tt te (wipeM ρ vs) xs [] S).nox.bind (k2Lc b)
theorem ev_lc {b : Bi} {mi : MA} {g : MG} {tt : MT} {te : ME} {vs : List Nat} : mLc b mi g tt te vs ρ S = (mi ρ S).bind (k1Lc b g tt te vs ρ) := rfl
theorem ev_lc1 {b : Bi} {g : MG} {tt : MT} {te : ME} {vs : List Nat} {xs : List Mv} : k1Lc b g tt te vs ρ xs S = (lcLoop g tt te (wipeM ρ vs) xs [] S).nox.bind (k2Lc b) := rfl
theorem ev_lc2 {b : Bi} {acc : List Mv} : k2Lc b acc S = bear b (.lst acc) S := rfl
theorem wipe_nil : wipeM ρ [] = ρ := rfl
theorem wipe_cons {v : Nat} {vs : List Nat} : wipeM ρ (v :: vs) = (wipeM ρ vs).set v none := rfl
/-! statements -/
def sq (r : RS) (b : MS) : RS := match r with | .nx ρ' S' => b ρ' S' | r => r
theorem ev_seq {a b : MS} : mSeq a b ρ S = sq (a ρ S) b := rfl
theorem seq_nx {b : MS} : sq (RS.nx ρ S) b = b ρ S := rfl
theorem seq_rt {x : Mv} {b : MS} : sq (RS.rt x S) b = .rt x S := rfl
theorem seq_exc {e : Ex} {b : MS} : sq (RS.exc e ρ S) b = .exc e ρ S := rfl
theorem seq_bk {b : MS} : sq (RS.bk ρ S) b = .bk ρ S := rfl
theorem seq_ct {b : MS} : sq (RS.ct ρ S) b = .ct ρ S := rfl
def nxO (o : Option Rho) (S : Sg) : RS := match o with | some ρ' => .nx ρ' S | none => .bad
def kAsg (g : MG) (ρ : Rho) : Mv → Sg → RS := fun x S => nxO (g S x ρ) S
theorem ev_asg {m : ME} {g : MG} : mAsg m g ρ S = (m ρ S).go ρ (kAsg g ρ) := rfl
theorem ev_asg1 {g : MG} {x : Mv} : kAsg g ρ x S = nxO (g S x ρ) S := rfl
theorem nxO_some : nxO (some ρ) S = .nx ρ S := rfl
theorem mg_name {i : Nat} {x : Mv} : mgName i S x ρ = some (ρ.set i (some x)) := rfl
theorem mg_nil : mgNil S [] ρ = some ρ := rfl
theorem mg_cons {g : MG} {r : MGs} {x : Mv} {xs : List Mv} : mgCons g r S (x :: xs) ρ = (g S x ρ).bind fun ρ' => r S xs ρ' := rfl
theorem mg_consN {i : Nat} {r : MGs} {x : Mv} {xs : List Mv} : mgCons (mgName i) r S (x :: xs) ρ = r S xs (ρ.set i (some x)) := rfl
theorem mg_tup {n : Nat} {g : MGs} {xs : List PyData} (h : (xs.map Mv.d).length = n) : mgTup n g S (.d (.tuple xs)) ρ = g S (xs.map .d) ρ := if_pos h
def kExpr (ρ : Rho) : Mv → Sg → RS := fun _ S => .nx ρ S
theorem ev_expr {m : ME} : mExpr m ρ S = (m ρ S).go ρ (kExpr ρ) := rfl
theorem ev_expr1 {x : Mv} : kExpr ρ x S = .nx ρ S := rfl
def kRet : Mv → Sg → RS := fun x S => .rt x S
theorem ev_ret {m : ME} : mRet m ρ S = (m ρ S).go ρ kRet := rfl
theorem ev_ret1 {x : Mv} : kRet x S = .rt x S := rfl
theorem ev_retN : mRetN ρ S = .rt (.d .none) S := rfl
theorem ev_skip : mSkip ρ S = .nx ρ S := rfl
theorem ev_brk : mBrk ρ S = .bk ρ S := rfl
theorem ev_cnt : mCnt ρ S = .ct ρ S := rfl
def kIf (a b : MS) (ρ : Rho) : Bool → Sg → RS := fun k S => if k = true then a ρ S else b ρ S
theorem ev_if {c : MT} {a b : MS} : mIfS c a b ρ S = (c ρ S).go ρ (kIf a b ρ) := rfl
theorem if_t {a b : MS} : kIf a b ρ true S = a ρ S := rfl
theorem if_f {a b : MS} : kIf a b ρ false S = b ρ S := rfl
def kFor (g : MG) (b : MS) (ρ : Rho) : List Mv → Sg → RS := fun xs S => mLoop g b xs ρ S
theorem ev_for {mi : MA} {g : MG} {b : MS} : mFor mi g b ρ S = (mi ρ S).go ρ (kFor g b ρ) := rfl
theorem ev_for1 {g : MG} {b : MS} {xs : List Mv} : kFor g b ρ xs S = mLoop g b xs ρ S := rfl
def fzO (o : Option (List PyData)) (S : Sg) (i : Nat) : Res Mv := match o with | some ds => .ok (.d (.list ds)) (S.set i (true, .gone)) | none => .bad
theorem ev_fz {m : ME} : mFz m ρ S = (m ρ S).bind fz := rfl
def fzC (i : Nat) (o : Option (Bool × Mo)) (S : Sg) : Res Mv := match o with
  | some (true, .lst xs) => fzO (allD xs) S i
  | _ => .bad
theorem fz_own {i : Nat} : fz (.own i) S = fzC i S[i]? S := by
  unfold fz fzC; simp only
  cases S[i]? with
  | none => rfl
  | some p => obtain ⟨c, o⟩ := p; cases o <;> cases c <;> rfl
theorem fzC_some {i : Nat} {xs : List Mv} : fzC i (some (true, .lst xs)) S = fzO (allD xs) S i := rfl
theorem fzO_some {i : Nat} {ds : List PyData} : fzO (some ds) S i = .ok (.d (.list ds)) (S.set i (true, .gone)) := rfl
theorem fz_d {x : PyData} : fz (.d x) S = .ok (.d x) S := rfl
theorem fz_ref {i : Nat} : fz (.ref i) S = .ok (.ref i) S := rfl
def stO (ρ : Rho) (o : Option Sg) : RS := match o with | some S => .nx ρ S | none => .bad
theorem stO_some : stO ρ (some S) = .nx ρ S := rfl
def k3St (ρ : Rho) (z x : Mv) : Mv → Sg → RS := fun y S => stO ρ (setIx S x y z)
def k2St (i : ME) (ρ : Rho) (z : Mv) : Mv → Sg → RS := fun x S => (i ρ S).go ρ (k3St ρ z x)
def k1St (o i : ME) (ρ : Rho) : Mv → Sg → RS := fun z S => (o ρ S).go ρ (k2St i ρ z)
theorem ev_st {v o i : ME} : mSetIx v o i ρ S = (v ρ S).go ρ (k1St o i ρ) := rfl
theorem ev_st1 {o i : ME} {z : Mv} : k1St o i ρ z S = (o ρ S).go ρ (k2St i ρ z) := rfl
theorem ev_st2 {i : ME} {z x : Mv} : k2St i ρ z x S = (i ρ S).go ρ (k3St ρ z x) := rfl
theorem ev_st3 {z x y : Mv} : k3St ρ z x y S = stO ρ (setIx S x y z) := rfl
def siO (o : Option (Nat × Bool × Mo)) (k : Int) (z : Mv) (S : Sg) : Option Sg := match o with
  | some (i, b, .lst zs) => if z.free = true then (ixN zs.length k).map fun j => S.set i (b, .lst (zs.set j z)) else none
  | _ => none
theorem ev_setIx {x z : Mv} {k : Int} : setIx S x (.d (.int k)) z = siO (x.cell S) k z S := rfl
theorem siO_some {i : Nat} {b : Bool} {zs : List Mv} {k : Int} {z : Mv} (h : z.free = true) : siO (some (i, b, .lst zs)) k z S = (ixN zs.length k).map fun j => S.set i (b, .lst (zs.set j z)) := if_pos h
def kPar (i j : Nat) (ρ : Rho) : List Mv → Sg → RS := fun xs S => match xs with | [x, y] => .nx ((ρ.set i (some x)).set j (some y)) S | _ => .bad
theorem ev_par {i j : Nat} {a : MA} : mPar i j a ρ S = (a ρ S).go ρ (kPar i j ρ) := rfl
theorem ev_par1 {i j : Nat} {x y : Mv} : kPar i j ρ [x, y] S = .nx ((ρ.set i (some x)).set j (some y)) S := rfl
/-! defs -/
def begin_ (n : Nat) (xs : List Mv) : Rho := xs.map some ++ List.replicate (n - xs.length) none
def nones : Nat → Rho
  | 0 => []
  | n + 1 => none :: nones n
theorem nones_zero : nones 0 = [] := rfl
theorem nones_succ {n : Nat} : nones (n + 1) = none :: nones n := rfl
theorem nones_eq : ∀ n, List.replicate n none = nones n
  | 0 => rfl
  | n + 1 => by rw [List.replicate_succ, nones_eq n]; rfl
theorem begin_eq {n : Nat} {xs : List Mv} : begin_ n xs = xs.map some ++ nones (n - xs.length) := by unfold begin_; rw [nones_eq]
theorem ev_fn {n : Nat} {m : MS} {xs : List Mv} : fnM n m xs S = fin S.length (m (begin_ n xs) S) := rfl
theorem fin_rt {x : PyData} {n : Nat} : fin n (.rt (.d x) S) = .ok (.d x) (trim n S) := rfl
theorem fin_ref {i : Nat} {n : Nat} : fin n (.rt (.ref i) S) = .ok (.ref i) (trim n S) := rfl
theorem fin_nx {n : Nat} : fin n (.nx ρ S) = .ok (.d .none) (trim n S) := rfl
theorem fin_exc {e : Ex} {n : Nat} (h : exFree e = true) : fin n (.exc e ρ S) = .exc e (trim n S) := if_pos h
theorem trim_same {n : Nat} (h : S.length = n) : trim n S = S := by
  subst h
  unfold trim
  rw [List.drop_length, List.take_length]
  rfl
theorem trim_app {n : Nat} {T : Sg} (h : S.length = n) (hT : T.all (·.1) = true) : trim n (S ++ T) = S := by
  subst h
  unfold trim
  rw [List.drop_left, if_pos hT, List.take_left]
/-! loops -/
theorem loop_nil {g : MG} {b : MS} : mLoop g b [] ρ S = .nx ρ S := rfl
/-- one turn that goes on -/
theorem loop_on {g : MG} {b : MS} {x : Mv} {xs : List Mv} {ρ1 ρ2 : Rho} {S2 : Sg} (h1 : g S x ρ = some ρ1) (h2 : b ρ1 S = .nx ρ2 S2) : mLoop g b (x :: xs) ρ S = mLoop g b xs ρ2 S2 := by
  simp only [mLoop]; rw [h1]; simp only; rw [h2]
theorem loop_ct {g : MG} {b : MS} {x : Mv} {xs : List Mv} {ρ1 ρ2 : Rho} {S2 : Sg} (h1 : g S x ρ = some ρ1) (h2 : b ρ1 S = .ct ρ2 S2) : mLoop g b (x :: xs) ρ S = mLoop g b xs ρ2 S2 := by
  simp only [mLoop]; rw [h1]; simp only; rw [h2]
theorem loop_rt {g : MG} {b : MS} {x y : Mv} {xs : List Mv} {ρ1 : Rho} {S2 : Sg} (h1 : g S x ρ = some ρ1) (h2 : b ρ1 S = .rt y S2) : mLoop g b (x :: xs) ρ S = .rt y S2 := by
  simp only [mLoop]; rw [h1]; simp only; rw [h2]
theorem loop_bk {g : MG} {b : MS} {x : Mv} {xs : List Mv} {ρ1 ρ2 : Rho} {S2 : Sg} (h1 : g S x ρ = some ρ1) (h2 : b ρ1 S = .bk ρ2 S2) : mLoop g b (x :: xs) ρ S = .nx ρ2 S2 := by
  simp only [mLoop]; rw [h1]; simp only; rw [h2]
theorem lc_nil {g : MG} {tt : MT} {te : ME} {acc : List Mv} : lcLoop g tt te ρ [] acc S = .ok acc S := rfl
theorem lc_yes {g : MG} {te : ME} {x y : Mv} {xs acc : List Mv} {ρ1 : Rho} {S2 : Sg} (h1 : g S x ρ = some ρ1) (h2 : te ρ1 S = .ok y S2) (h3 : y.free = true) (h4 : acc.length < sizeLine) : lcLoop g mYes te ρ (x :: xs) acc S = lcLoop g mYes te ρ xs (acc ++ [y]) S2 := by
  simp only [lcLoop]; rw [h1]; simp only [mYes, Res.bind, if_true]; rw [h2]; simp only; rw [if_pos ⟨h3, h4⟩]
theorem lc_in {g : MG} {tt : MT} {te : ME} {x y : Mv} {xs acc : List Mv} {ρ1 : Rho} {S1 S2 : Sg} (h1 : g S x ρ = some ρ1) (h0 : tt ρ1 S = .ok true S1) (h2 : te ρ1 S1 = .ok y S2) (h3 : y.free = true) (h4 : acc.length < sizeLine) : lcLoop g tt te ρ (x :: xs) acc S = lcLoop g tt te ρ xs (acc ++ [y]) S2 := by
  simp only [lcLoop]; rw [h1]; simp only; rw [h0]; simp only [Res.bind, if_true]; rw [h2]; simp only; rw [if_pos ⟨h3, h4⟩]
theorem lc_out {g : MG} {tt : MT} {te : ME} {x : Mv} {xs acc : List Mv} {ρ1 : Rho} {S1 : Sg} (h1 : g S x ρ = some ρ1) (h0 : tt ρ1 S = .ok false S1) : lcLoop g tt te ρ (x :: xs) acc S = lcLoop g tt te ρ xs acc S1 := by
  simp only [lcLoop]; rw [h1]; simp only; rw [h0]; simp [Res.bind]
theorem wh_on {c : MT} {b : MS} {n : Nat} {ρ2 : Rho} {S1 S2 : Sg} (h : c ρ S = .ok true S1) (h2 : b ρ S1 = .nx ρ2 S2) : mWhile c b (n + 1) ρ S = mWhile c b n ρ2 S2 := by
  simp only [mWhile]; rw [h]; simp only [Res.go, if_true]; rw [h2]
theorem wh_end {c : MT} {b : MS} {n : Nat} {S1 : Sg} (h : c ρ S = .ok false S1) : mWhile c b (n + 1) ρ S = .nx ρ S1 := by
  simp only [mWhile]; rw [h]; simp [Res.go]
/-- a comprehension whose items are reckoned one by one, the store as it is -/
theorem lc_map {g : MG} {te : ME} {f : Mv → Mv} : ∀ {xs acc : List Mv}, (∀ x ∈ xs, ∃ ρ1, g S x ρ = some ρ1 ∧ te ρ1 S = .ok (f x) S ∧ (f x).free = true) → acc.length + xs.length ≤ sizeLine → lcLoop g mYes te ρ xs acc S = .ok (acc ++ xs.map f) S
  | [], acc, _, _ => by rw [lc_nil, List.map_nil, List.append_nil]
  | x :: xs, acc, h, hl => by
    obtain ⟨ρ1, h1, h2, h3⟩ := h x (List.mem_cons_self ..)
    rw [List.length_cons] at hl
    rw [lc_yes h1 h2 h3 (by omega), lc_map (fun y hy => h y (List.mem_cons_of_mem _ hy)) (by rw [List.length_append, List.length_singleton]; omega), List.map_cons, List.append_assoc]
    rfl
end
end MM.Q
end
section
set_option Elab.async false
set_option linter.all false
set_option maxRecDepth 100000
set_option maxHeartbeats 4000000
set_option autoImplicit false
namespace MM.Q
open PySem PySem.Spec PyProof.Rows L2 MM

/-! ### texts by their codes -/
def st (l : List Nat) : Str := ⟨l.toArray⟩
abbrev cs (z : Str) : List Nat := z.cps.toList
theorem st_cs (z : Str) : st (cs z) = z := by unfold st cs; cases z; simp
theorem cs_st (l : List Nat) : cs (st l) = l := by simp [st, cs]
theorem st_inj {a b : List Nat} (h : st a = st b) : a = b := by rw [← cs_st a, ← cs_st b, h]
theorem st_len {l : List Nat} : (st l).length = l.length := by simp [st, Str.length]
theorem cs_len {z : Str} : (cs z).length = z.length := by simp [cs, Str.length]
theorem st_app {a b : List Nat} : st a ++ st b = st (a ++ b) := by
  have h : (st a ++ st b).cps = (st a).cps ++ (st b).cps := Str.cps_append _ _
  have : (st a ++ st b) = ⟨(st a).cps ++ (st b).cps⟩ := by
    cases e : st a ++ st b with
    | mk c => rw [e] at h; simp only at h; rw [h]
  rw [this]; simp [st]
theorem cs_app {a b : Str} : cs (a ++ b) = cs a ++ cs b := by rw [← st_cs a, ← st_cs b, st_app, cs_st, cs_st, cs_st]
theorem signs_st {l : List Nat} : signs (st l) = l.map fun c => .d (.str (st [c])) := by simp [signs, st]
theorem app_len {a b : Str} : (a ++ b).length = a.length + b.length := by rw [← cs_len, cs_app, List.length_append, cs_len, cs_len]
theorem cutS_st {l : List Nat} {lo hi : Option Int} : cutS (st l) lo hi = st ((l.drop (HT.sIx l.length 0 lo)).take (HT.sIx l.length l.length hi - HT.sIx l.length 0 lo)) := by
  unfold cutS
  rw [show (st l).length = l.length from st_len]
  simp [st]
theorem revS_st {l : List Nat} : revS (st l) = st l.reverse := by simp [revS, st]
theorem cutS_mem {z : Str} {lo hi : Option Int} {c : Nat} (h : c ∈ cs (cutS z lo hi)) : c ∈ cs z := by
  unfold cutS at h
  simp only [cs] at h
  exact List.mem_of_mem_drop (List.mem_of_mem_take h)
theorem cutS_len {z : Str} {lo hi : Option Int} : (cutS z lo hi).length ≤ z.length := cutS_length z lo hi
theorem revS_len {z : Str} : (revS z).length = z.length := by simp [revS, Str.length]
theorem revS_mem {z : Str} {c : Nat} (h : c ∈ cs (revS z)) : c ∈ cs z := by simpa [revS, cs] using h
theorem strRep_mem {z : Str} {n c : Nat} (h : c ∈ cs (strRep z n)) : c ∈ cs z := by
  simp only [strRep, cs] at h
  simp only [List.mem_flatten, List.mem_replicate] at h
  obtain ⟨l, ⟨_, rfl⟩, h⟩ := h
  exact h
/-- the signs of a text are below the line of code points -/
theorem strOk_of {z : Str} (h : ∀ c ∈ cs z, c < 0x110000) : PyData.strOk z = true := by
  unfold PyData.strOk
  rw [Array.all_eq_true]
  intro i hi
  exact decide_eq_true (h _ (by simp [cs]))
theorem in_sign {c : Nat} {z : Str} : inStr (st [c]) z = decide (c ∈ cs z) := by
  have h := PySem.StrLaws.found_one z c
  unfold inStr
  exact h

/-! cuts of lists -/
def cutL {α : Type} (xs : List α) (lo hi : Option Int) : List α := (xs.drop (HT.sIx xs.length 0 lo)).take (HT.sIx xs.length xs.length hi - HT.sIx xs.length 0 lo)
theorem cutM_L {xs : List Mv} {lo hi : Option Int} : cutM xs lo hi = cutL xs lo hi := rfl
theorem cutL_map {α β : Type} {f : α → β} {xs : List α} {lo hi : Option Int} : cutL (xs.map f) lo hi = (cutL xs lo hi).map f := by
  unfold cutL; rw [List.length_map, ← List.map_drop, ← List.map_take]
theorem cutL_mem {α : Type} {xs : List α} {lo hi : Option Int} {x : α} (h : x ∈ cutL xs lo hi) : x ∈ xs := List.mem_of_mem_drop (List.mem_of_mem_take h)
theorem cutL_len {α : Type} {xs : List α} {lo hi : Option Int} : (cutL xs lo hi).length ≤ xs.length := by
  unfold cutL; rw [List.length_take, List.length_drop]; omega
theorem cutL_to {α : Type} {xs : List α} {k : Nat} : cutL xs none (some (k : Int)) = xs.take k := by
  unfold cutL; rw [HT.sIx_none, HT.sIx_nat, List.drop_zero, Nat.sub_zero]
  rcases Nat.le_total k xs.length with h | h
  · rw [Nat.min_eq_left h]
  · rw [Nat.min_eq_right h, List.take_length, List.take_of_length_le h]
theorem cutL_from {α : Type} {xs : List α} {k : Nat} : cutL xs (some (k : Int)) none = xs.drop k := by
  unfold cutL; rw [HT.sIx_none, HT.sIx_nat]
  rcases Nat.le_total k xs.length with h | h
  · rw [Nat.min_eq_left h, List.take_of_length_le (by rw [List.length_drop]; omega)]
  · rw [Nat.min_eq_right h, List.drop_length, List.drop_of_length_le h, List.take_nil]

/-! ### built-ins by their arguments -/
section
variable {S : Sg}
def lenO (o : Option Nat) : Option Nw := match o with | some n => some (.val (.d (.int (n : Nat)))) | none => none
theorem ev_len {x : Mv} : gLen S [x] = lenO (x.len S) := by
  show (x.len S).map _ = _
  cases x.len S <;> rfl
theorem lenO_some {n : Nat} : lenO (some n) = some (.val (.d (.int (n : Nat)))) := rfl
theorem len_str {z : Str} (h : z.length ≤ sizeLine) : Mv.len S (.d (.str z)) = some z.length := if_pos h
theorem len_list {xs : List PyData} : Mv.len S (.d (.list xs)) = some xs.length := by simp [Mv.len, Mv.seq]
theorem len_tup {xs : List PyData} : Mv.len S (.d (.tuple xs)) = some xs.length := by simp [Mv.len, Mv.seq]
def lnO (o : Option (Bool × List Mv)) : Option Nat := match o with | some q => some q.2.length | none => none
theorem lnO_some {b : Bool} {xs : List Mv} : lnO (some (b, xs)) = some xs.length := rfl
theorem len_ref {i : Nat} : Mv.len S (.ref i) = lnO (Mv.seq S (.ref i)) := by
  show (Mv.seq S (.ref i)).map _ = _
  cases Mv.seq S (.ref i) <;> rfl
theorem len_own {i : Nat} : Mv.len S (.own i) = lnO (Mv.seq S (.own i)) := by
  show (Mv.seq S (.own i)).map _ = _
  cases Mv.seq S (.own i) <;> rfl
def lisO (o : Option (Bool × List Mv)) : Option Nw := match o with | some q => some (.lst q.2) | none => none
theorem ev_lst {x : Mv} : gList S [x] = lisO (x.seq S) := by
  show (x.seq S).map _ = _
  cases x.seq S <;> rfl
theorem lisO_some {b : Bool} {xs : List Mv} : lisO (some (b, xs)) = some (.lst xs) := rfl
def l1O {α : Type} (p : List Mv → Option α) (f : α → Nw) (o : Option (List Mv)) : Option Nw := match o with | some ys => (p ys).map f | none => none
theorem ev_l1 {α : Type} {p : List Mv → Option α} {f : α → Nw} {x : Mv} : gList1 p f S [x] = l1O p f (x.isList S) := by
  show (x.isList S).bind _ = _
  cases x.isList S <;> rfl
theorem l1O_some {α : Type} {p : List Mv → Option α} {f : α → Nw} {ys : List Mv} : l1O p f (some ys) = (p ys).map f := rfl
theorem ev_sum {x : Mv} : gSum S [x] = l1O intsM (fun ns => .val (.d (.int ns.sum))) (x.isList S) := ev_l1
theorem ev_all {x : Mv} : gAll S [x] = l1O boolsM (fun bs => .val (.d (.bool (bs.all id)))) (x.isList S) := ev_l1
theorem ev_any {x : Mv} : gAny S [x] = l1O boolsM (fun bs => .val (.d (.bool (bs.any id)))) (x.isList S) := ev_l1
theorem ints_map (ns : List Int) : intsM ((ns.map PyData.int).map .d) = some ns := by
  induction ns with
  | nil => rfl
  | cons x r ih => show (intsM _).map (x :: ·) = _; rw [ih]; rfl
theorem bools_map (ns : List Bool) : boolsM ((ns.map PyData.bool).map .d) = some ns := by
  induction ns with
  | nil => rfl
  | cons x r ih => show (boolsM _).map (x :: ·) = _; rw [ih]; rfl
theorem strs_map (ns : List Str) : strsM ((ns.map PyData.str).map .d) = some ns := by
  induction ns with
  | nil => rfl
  | cons x r ih => show (strsM _).map (x :: ·) = _; rw [ih]; rfl
theorem divmod_int {i j : Int} (h : 0 < j ∧ j < 1073741824) : gDivmod S [.d (.int i), .d (.int j)] = some (.tup [.d (.int (i / j)), .d (.int (i % j))]) := if_pos h
def isiO (o : Option String) (c : String) : Option Nw := match o with | some t => (kitB t c).map fun b => .val (.d (.bool b)) | none => none
theorem ev_isi {x : Mv} {c : String} : gIsi S [x, .ty c] = isiO (x.kind S) c := by
  show (x.kind S).bind _ = _
  cases x.kind S <;> rfl
theorem isiO_some {t c : String} : isiO (some t) c = (kitB t c).map fun b => .val (.d (.bool b)) := rfl
theorem kind_str {z : Str} : Mv.kind S (.d (.str z)) = some "str" := rfl
theorem kind_int {z : Int} : Mv.kind S (.d (.int z)) = some "int" := rfl
theorem kind_bool {z : Bool} : Mv.kind S (.d (.bool z)) = some "bool" := rfl
theorem kind_none : Mv.kind S (.d .none) = some "NoneType" := rfl
theorem kind_dict {z : List (PyData × PyData)} : Mv.kind S (.d (.dict z)) = some "dict" := rfl
theorem kind_list {z : List PyData} : Mv.kind S (.d (.list z)) = some "list" := rfl
theorem kind_tup {z : List PyData} : Mv.kind S (.d (.tuple z)) = some "tuple" := rfl
theorem kit_ss : kitB "str" "str" = some true := by decide +kernel
theorem kit_is : kitB "int" "str" = some false := by decide +kernel
theorem kit_bs : kitB "bool" "str" = some false := by decide +kernel
theorem kit_ns : kitB "NoneType" "str" = some false := by decide +kernel
theorem kit_ds : kitB "dict" "str" = some false := by decide +kernel
theorem kit_ls : kitB "list" "str" = some false := by decide +kernel
theorem kit_ts : kitB "tuple" "str" = some false := by decide +kernel
def repO (o : Option PyData) : Option Nw := match o with
  | some d => if SeqAt.shaped d = true ∧ d.showable = true ∧ d.shown.length ≤ sizeLine then some (.val (.d (.str d.shown))) else none
  | none => none
theorem ev_repr {x : Mv} : gRepr S [x] = repO (x.data S) := by
  show (x.data S).bind _ = _
  cases x.data S <;> rfl
theorem repO_some {d : PyData} (h1 : SeqAt.shaped d = true) (h2 : d.showable = true) (h3 : d.shown.length ≤ sizeLine) : repO (some d) = some (.val (.d (.str d.shown))) := if_pos ⟨h1, h2, h3⟩
def joinO (a : Str) (o : Option (List Str)) : Option Nw := match o with
  | some ys => if (ys.map (·.length)).sum + ys.length * a.length ≤ 16777216 then some (.val (.d (.str (Txt.join a ys)))) else none
  | none => none
def jnO (a : Str) (o : Option (Bool × List Mv)) : Option Nw := match o with | some q => joinO a (strsM q.2) | none => none
theorem ev_join {a : Str} {x : Mv} : gJoin S (.d (.str a)) [x] = jnO a (x.seq S) := by
  show (x.seq S).bind _ = _
  cases x.seq S with
  | none => rfl
  | some q =>
    show (strsM q.2).bind _ = joinO a (strsM q.2)
    cases strsM q.2 <;> rfl
theorem jnO_some {a : Str} {b : Bool} {xs : List Mv} : jnO a (some (b, xs)) = joinO a (strsM xs) := rfl
theorem joinO_some {a : Str} {ys : List Str} (h : (ys.map (·.length)).sum + ys.length * a.length ≤ 16777216) : joinO a (some ys) = some (.val (.d (.str (Txt.join a ys)))) := if_pos h
/-- nothing between -/
theorem join_nil_st : ∀ ls : List (List Nat), Txt.join (st []) (ls.map st) = st ls.flatten := by
  intro ls
  rw [TL.join_eq]
  have key : ∀ ls : List (List Nat), cs (Str.join (st []) (ls.map st)) = ls.flatten := by
    intro ls
    have h := TL.tl_join (st []) (ls.map st)
    have e : TL.tl (st []) = [] := by simp [st]
    rw [e] at h
    rw [show cs (Str.join (st []) (ls.map st)) = TL.tl (Str.join (st []) (ls.map st)) from rfl, h]
    have g : ∀ ps : List (List Nat), TL.joinL [] ps = ps.flatten := by
      intro ps
      induction ps with
      | nil => rfl
      | cons p r ih =>
        cases r with
        | nil => simp [TL.joinL]
        | cons q r => rw [show TL.joinL [] (p :: q :: r) = p ++ ([] ++ TL.joinL [] (q :: r)) from rfl, ih]; simp
    rw [g, List.map_map]
    congr 1
    have : (TL.tl ∘ st) = id := by funext l; simp [st]
    rw [this, List.map_id]
  rw [← st_cs (Str.join (st []) (ls.map st)), key]
end

/-! texts by their codes: operators -/
section
variable {S : Sg}
theorem len_st {l : List Nat} (h : l.length ≤ sizeLine) : Mv.len S (.d (.str (st l))) = some l.length := by rw [len_str (by rw [st_len]; exact h), st_len]
theorem add_st {a b : List Nat} (h : a.length + b.length ≤ sizeLine) : gAdd S (.d (.str (st a))) (.d (.str (st b))) = some (.val (.d (.str (st (a ++ b))))) := by
  rw [add_str (by rw [st_len, st_len]; exact h), st_app]
theorem strRep_st {l : List Nat} {n : Nat} : strRep (st l) n = st (List.replicate n l).flatten := by simp [strRep, st]
theorem rep_len {α : Type} {n : Nat} {l : List α} : (List.replicate n l).flatten.length = n * l.length := by simp
theorem mul_st {l : List Nat} {n : Int} (h : -(2 ^ 63) ≤ n ∧ n < 2 ^ 63 ∧ n.toNat * l.length ≤ sizeLine) : gMul S (.d (.str (st l))) (.d (.int n)) = some (.val (.d (.str (st (List.replicate n.toNat l).flatten)))) := by
  rw [mul_str ⟨h.1, h.2.1, by rw [st_len, Nat.mul_comm]; exact h.2.2⟩, strRep_st]
theorem ix_st {l : List Nat} {i : Int} (h : l.length ≤ sizeLine) : gIx S (.d (.str (st l))) (.d (.int i)) = (atI l i).map fun c => .d (.str (st [c])) := by
  rw [ix_str (by rw [st_len]; exact h), show (st l).cps.toList = l from cs_st l]
  rfl
theorem sl_st {l : List Nat} {lo hi : Option Int} (h : l.length ≤ sizeLine) : gSl S (.d (.str (st l))) lo hi = some (.val (.d (.str (st (cutL l lo hi))))) := by
  rw [sl_txt (by rw [st_len]; exact h), cutS_st]; rfl
theorem rev_st {b : Bi} {l : List Nat} (h : l.length ≤ sizeLine) : kRev b (.d (.str (st l))) S = .ok (.d (.str (st l.reverse))) S := by
  rw [rev_str (by rw [st_len]; exact h), revS_st]
theorem items_st {l : List Nat} : Mv.items (.d (.str (st l))) = some (l.map fun c => .d (.str (st [c]))) := by rw [items_str, signs_st]
theorem eqv_st {a b : List Nat} : PyData.eqv (.str (st a)) (.str (st b)) = decide (a = b) := by
  rw [eqv_str]
  by_cases h : a = b
  · subst h; rw [decide_eq_true rfl]; exact beq_self_eq_true _
  · rw [decide_eq_false h]; exact beq_eq_false_iff_ne.mpr fun e => h (st_inj e)
theorem ok_st {l : List Nat} (h : ∀ c ∈ l, c < 0x110000) : SeqAt.shaped (.str (st l)) = true := by
  rw [shaped_str]; exact strOk_of fun c hc => h c (by rw [cs_st] at hc; exact hc)
end
theorem flat_ones (ts : List Nat) : (ts.map fun c => [c]).flatten = ts := by
  induction ts with
  | nil => rfl
  | cons t r ih => simp [ih]
theorem join_ones (ts : List Nat) : Txt.join (st []) (ts.map fun c => st [c]) = st ts := by
  have := join_nil_st (ts.map fun c => [c])
  rw [List.map_map, flat_ones] at this
  exact this
theorem allD_mapf {α : Type} {f : α → PyData} {xs : List α} : allD (xs.map fun a => .d (f a)) = some (xs.map f) := by
  rw [show (xs.map fun a => Mv.d (f a)) = (xs.map f).map .d from by rw [List.map_map]; rfl]
  exact allD_map _
theorem strs_mapf {α : Type} {f : α → Str} {xs : List α} : strsM ((xs.map fun a => PyData.str (f a)).map .d) = some (xs.map f) := by
  rw [show (xs.map fun a => PyData.str (f a)) = (xs.map f).map .str from by rw [List.map_map]; rfl]
  exact strs_map _
theorem ints_mapf {α : Type} {f : α → Int} {xs : List α} : intsM ((xs.map fun a => PyData.int (f a)).map .d) = some (xs.map f) := by
  rw [show (xs.map fun a => PyData.int (f a)) = (xs.map f).map .int from by rw [List.map_map]; rfl]
  exact ints_map _
theorem bools_mapf {α : Type} {f : α → Bool} {xs : List α} : boolsM ((xs.map fun a => PyData.bool (f a)).map .d) = some (xs.map f) := by
  rw [show (xs.map fun a => PyData.bool (f a)) = (xs.map f).map .bool from by rw [List.map_map]; rfl]
  exact bools_map _
theorem join_ones_some {ts : List Nat} (h : ts.length ≤ 16777216) : joinO (st []) (some (ts.map fun c => st [c])) = some (.val (.d (.str (st ts)))) := by
  rw [joinO_some, join_ones]
  have : ((ts.map fun c => st [c]).map (·.length)).sum = ts.length := by
    clear h
    induction ts with
    | nil => rfl
    | cons t r ih => rw [List.map_cons, List.map_cons, List.sum_cons, ih, st_len, List.length_cons]; simp; omega
  rw [this, st_len]
  simpa using h
def slO (o : Option (List Mv)) (lo hi : Option Int) : Option Nw := match o with | some xs => some (.lst (cutL xs lo hi)) | none => none
theorem sl_own {S : Sg} {i : Nat} {lo hi : Option Int} : gSl S (.own i) lo hi = slO (Mv.isList S (.own i)) lo hi := rfl
theorem sl_ref {S : Sg} {i : Nat} {lo hi : Option Int} : gSl S (.ref i) lo hi = slO (Mv.isList S (.ref i)) lo hi := rfl
theorem sl_list {S : Sg} {xs : List PyData} {lo hi : Option Int} : gSl S (.d (.list xs)) lo hi = some (.lst ((cutL xs lo hi).map .d)) := by
  rw [← cutL_map]; rfl
theorem slO_some {lo hi : Option Int} {xs : List Mv} : slO (some xs) lo hi = some (.lst (cutL xs lo hi)) := rfl
def catO (o p : Option (List Mv)) : Option Nw := match o, p with
  | some xs, some ys => if xs.length + ys.length ≤ sizeLine then some (Nw.lst (xs ++ ys)) else none
  | _, _ => none
theorem add_own {S : Sg} {i : Nat} {y : Mv} : gAdd S (.own i) y = catO (Mv.isList S (.own i)) (Mv.isList S y) := rfl
theorem add_ref {S : Sg} {i : Nat} {y : Mv} : gAdd S (.ref i) y = catO (Mv.isList S (.ref i)) (Mv.isList S y) := rfl
theorem add_list {S : Sg} {xs : List PyData} {y : Mv} : gAdd S (.d (.list xs)) y = catO (some (xs.map .d)) (Mv.isList S y) := by
  cases y <;> rfl
theorem catO_some {xs ys : List Mv} (h : xs.length + ys.length ≤ sizeLine) : catO (some xs) (some ys) = some (.lst (xs ++ ys)) := if_pos h
/-! ### loops and comprehensions by an invariant -/
section
variable {ρ : Rho} {S : Sg}
theorem lc_mapF {α : Type} {g : MG} {te : ME} {h k : α → Mv} : ∀ {l : List α} {acc : List Mv}, (∀ a ∈ l, ∃ ρ1, g S (h a) ρ = some ρ1 ∧ te ρ1 S = .ok (k a) S ∧ (k a).free = true) → acc.length + l.length ≤ sizeLine → lcLoop g mYes te ρ (l.map h) acc S = .ok (acc ++ l.map k) S
  | [], acc, _, _ => by rw [List.map_nil, lc_nil, List.map_nil, List.append_nil]
  | a :: l, acc, hh, hl => by
    obtain ⟨ρ1, h1, h2, h3⟩ := hh a (List.mem_cons_self ..)
    rw [List.length_cons] at hl
    rw [List.map_cons, lc_yes h1 h2 h3 (by omega), lc_mapF (fun y hy => hh y (List.mem_cons_of_mem _ hy)) (by rw [List.length_append, List.length_singleton]; omega), List.map_cons, List.append_assoc]
    rfl
/-- what each turn does to the store is told by P, its items by R -/
theorem lc_ex {g : MG} {te : ME} {P : Sg → Prop} {R : Mv → Prop} : ∀ {xs acc : List Mv} {S : Sg}, (∀ x ∈ xs, ∀ S, P S → ∃ ρ1 y S2, g S x ρ = some ρ1 ∧ te ρ1 S = .ok y S2 ∧ y.free = true ∧ R y ∧ P S2) → P S → acc.length + xs.length ≤ sizeLine →
    ∃ ys S2, lcLoop g mYes te ρ xs acc S = .ok (acc ++ ys) S2 ∧ ys.length = xs.length ∧ (∀ y ∈ ys, R y) ∧ P S2
  | [], acc, S, _, hp, _ => ⟨[], S, by rw [lc_nil, List.append_nil], rfl, fun _ h => (nomatch h), hp⟩
  | x :: xs, acc, S, hh, hp, hl => by
    obtain ⟨ρ1, y, S1, h1, h2, h3, h4, h5⟩ := hh x (List.mem_cons_self ..) S hp
    rw [List.length_cons] at hl
    obtain ⟨ys, S2, e, e1, e2, e3⟩ := lc_ex (acc := acc ++ [y]) (fun z hz => hh z (List.mem_cons_of_mem _ hz)) h5 (by rw [List.length_append, List.length_singleton]; omega)
    refine ⟨y :: ys, S2, ?_, by simp [e1], fun z hz => ?_, e3⟩
    · rw [lc_yes h1 h2 h3 (by omega), e, List.append_assoc]; rfl
    · rcases List.mem_cons.mp hz with rfl | hz
      · exact h4
      · exact e2 z hz
theorem loop_ex {g : MG} {b : MS} {P : Rho → Sg → Prop} : ∀ {xs : List Mv} {ρ : Rho} {S : Sg}, (∀ x ∈ xs, ∀ ρ S, P ρ S → ∃ ρ1 ρ2 S2, g S x ρ = some ρ1 ∧ b ρ1 S = .nx ρ2 S2 ∧ P ρ2 S2) → P ρ S → ∃ ρ2 S2, mLoop g b xs ρ S = .nx ρ2 S2 ∧ P ρ2 S2
  | [], ρ, S, _, hp => ⟨ρ, S, rfl, hp⟩
  | x :: xs, ρ, S, hh, hp => by
    obtain ⟨ρ1, ρ2, S2, h1, h2, h3⟩ := hh x (List.mem_cons_self ..) ρ S hp
    obtain ⟨ρ3, S3, e, e1⟩ := loop_ex (fun z hz => hh z (List.mem_cons_of_mem _ hz)) h3
    exact ⟨ρ3, S3, by rw [loop_on h1 h2, e], e1⟩
/-- a loop that folds a state σ -/
theorem loop_fold {α β : Type} {g : MG} {b : MS} {h : α → Mv} {f : β → α → β} {R : β → Rho} {I : β → Prop} : ∀ {l : List α} {s : β}, (∀ a ∈ l, ∀ s, I s → ∃ ρ1, g S (h a) (R s) = some ρ1 ∧ ∀ x, b ρ1 S = x → x = .nx (R (f s a)) S) → (∀ a ∈ l, ∀ s, I s → I (f s a)) → I s → mLoop g b (l.map h) (R s) S = .nx (R (l.foldl f s)) S
  | [], s, _, _, _ => rfl
  | a :: l, s, hh, hi, hs => by
    obtain ⟨ρ1, h1, h2⟩ := hh a (List.mem_cons_self ..) s hs
    rw [List.map_cons, loop_on h1 (h2 _ rfl)]
    exact loop_fold (fun y hy => hh y (List.mem_cons_of_mem _ hy)) (fun y hy => hi y (List.mem_cons_of_mem _ hy)) (hi a (List.mem_cons_self ..) s hs)
/-- turns that are counted -/
theorem loop_exN {ρ : Rho} {S : Sg} {g : MG} {b : MS} {N : Nat} {P : Nat → Rho → Sg → Prop} : ∀ {xs : List Mv} {i : Nat} {ρ : Rho} {S : Sg}, (∀ x ∈ xs, ∀ i < N, ∀ ρ S, P i ρ S → ∃ ρ1 ρ2 S2, g S x ρ = some ρ1 ∧ b ρ1 S = .nx ρ2 S2 ∧ P (i + 1) ρ2 S2) → P i ρ S → i + xs.length ≤ N → ∃ ρ2 S2, mLoop g b xs ρ S = .nx ρ2 S2 ∧ P (i + xs.length) ρ2 S2
  | [], i, ρ, S, _, hp, _ => ⟨ρ, S, rfl, hp⟩
  | x :: xs, i, ρ, S, hh, hp, hi => by
    rw [List.length_cons] at hi
    obtain ⟨ρ1, ρ2, S2, h1, h2, h3⟩ := hh x (List.mem_cons_self ..) i (by omega) ρ S hp
    obtain ⟨ρ3, S3, e, e1⟩ := loop_exN (ρ := ρ) (S := S) (fun z hz => hh z (List.mem_cons_of_mem _ hz)) h3 (by omega)
    exact ⟨ρ3, S3, by rw [loop_on h1 h2, e], by rw [List.length_cons, Nat.add_comm xs.length 1, ← Nat.add_assoc]; exact e1⟩
theorem pick_all {α : Type} {p : α → Prop} {h : α → Mv} : ∀ {ys : List Mv}, (∀ y ∈ ys, ∃ a, p a ∧ y = h a) → ∃ as : List α, ys = as.map h ∧ ∀ a ∈ as, p a
  | [], _ => ⟨[], rfl, fun _ h => (nomatch h)⟩
  | y :: ys, hh => by
    obtain ⟨as, e, h2⟩ := pick_all fun z hz => hh z (List.mem_cons_of_mem _ hz)
    obtain ⟨a, ha, e1⟩ := hh y (List.mem_cons_self ..)
    exact ⟨a :: as, by rw [e, e1]; rfl, fun z hz => by
      rcases List.mem_cons.mp hz with rfl | hz
      · exact ha
      · exact h2 z hz⟩
theorem atI_mem {α : Type} {xs : List α} {i : Int} (h0 : 0 ≤ i) (h1 : i < xs.length) : ∃ x ∈ xs, atI xs i = some x := by
  have hi : i.toNat < xs.length := by omega
  exact ⟨xs[i.toNat], List.getElem_mem hi, by rw [atI_nat h0 h1, List.getElem?_eq_getElem hi]⟩
end
end MM.Q
end
section
set_option Elab.async false
set_option linter.all false
set_option maxRecDepth 100000
set_option maxHeartbeats 4000000
set_option autoImplicit false
namespace Law
open PySem PySem.Spec PyProof.Rows L2 MM
def topS (i : Nat) : Stmt := PySem.Challenge.pw_madestore_k01_marks_of_texts.main.body.getD i (.Pass ⟨0, 0, 0, 0⟩)
def k_SIGNS : Str := ("\n !\"#$&'()*+,-./0123456789:;<=>?@ABCDEFGHIJKLMNOPQRSTUVWXYZ[\\]^_`abcdefghijklmnopqrstuvwxyz{|}~" : Str)
def k_FIGURES : Str := ("0123456789abcdfghijklmnpqrsvwxyz" : Str)
abbrev s_is_mark : Stmt := topS 9
abbrev N_is_mark : List Str := ["thing", "sign"]
theorem sc_is_mark : FnScope N_is_mark ["thing"] (defScope s_is_mark) := ⟨rfl, rfl, rfl, by decide +kernel, rfl, by decide +kernel, by decide +kernel⟩
def m_is_mark : MS :=
  mRet (mAnd (mCB .frz gIsi (mCons (mVar 0) (mCons (mK (.ty "str")) (mNil)))) (mAnd (mBin .ref (gEqN false) (mCB .frz gLen (mCons (mVar 0) (mNil))) (mC (.int 8))) (mCB .frz gAll (mCons (mLc .frz (mIter (mVar 0)) (mgName 1) mYes (mBin .ref (gInN false) (mVar 1) (mC (.str k_FIGURES))) [1]) (mNil)))))
def f_is_mark : List Mv → Sg → Res Mv := fnM N_is_mark.length m_is_mark
abbrev s_mark_of : Stmt := topS 10
abbrev N_mark_of : List Str := ["text", "number", "sign", "found", "last"]
theorem sc_mark_of : FnScope N_mark_of ["text"] (defScope s_mark_of) := ⟨rfl, rfl, rfl, by decide +kernel, rfl, by decide +kernel, by decide +kernel⟩
def m_mark_of : MS :=
  mSeq (mAsg (mC (.int 7)) (mgName 1))
    (mSeq (mFor (mIter (mVar 0)) (mgName 2) (mAsg (mBin .frz gMod (mBin .frz gAdd (mBin .frz gMul (mC (.int 131)) (mVar 1)) (mIndex (mC (.str k_SIGNS)) (mCons (mVar 2) (mNil)))) (mC (.int 1099511627689))) (mgName 1)))
    (mSeq (mAsg (mC (.str ("" : Str))) (mgName 3))
    (mSeq (mWhile (mTst (mBin .ref gLt (mCB .frz gLen (mCons (mVar 3) (mNil))) (mC (.int 8)))) (mSeq (mAsg (mCB .frz gDivmod (mCons (mVar 1) (mCons (mCB .frz gLen (mCons (mC (.str k_FIGURES)) (mNil))) (mNil)))) (mgTup 2 (mgCons (mgName 1) (mgCons (mgName 4) (mgNil)))))
    (mAsg (mBin .frz gAdd (mIx (mC (.str k_FIGURES)) (mVar 4)) (mVar 3)) (mgName 3))) 9)
    (mRet (mVar 3)))))
def f_mark_of : List Mv → Sg → Res Mv := fnM N_mark_of.length m_mark_of
abbrev s_L_deck : Stmt := topS 12
abbrev N_L_deck : List Str := ["_law_script", "_law_cells", "_law_cell"]
theorem sc_L_deck : FnScope N_L_deck ["_law_script"] (defScope s_L_deck) := ⟨rfl, rfl, rfl, by decide +kernel, rfl, by decide +kernel, by decide +kernel⟩
def m_L_deck : MS :=
  mSeq (mAsg (mCB .frz gList (mCons (mSl .frz (mVar 0) (mON) (mOS (mC (.int 63)))) (mNil))) (mgName 1))
    (mRet (mDisp .ref false (mCons (mRev .ref (mVar 1)) (mCons (mBin .frz gAdd (mCB .frz gSum (mCons (mLc .frz (mIter (mVar 1)) (mgName 2) mYes (mBin .frz gMod (mVar 2) (mC (.int 1000003))) [2]) (mNil))) (mBin .frz gMul (mC (.int 7919)) (mCB .frz gLen (mCons (mVar 1) (mNil))))) (mCons (mC (.int 0)) (mNil))))))
def f_L_deck : List Mv → Sg → Res Mv := fnM N_L_deck.length m_L_deck
abbrev s_L_draw : Stmt := topS 13
abbrev N_L_draw : List Str := ["_law_deck_here", "_law_many", "_law_cell", "_law_mixed"]
theorem sc_L_draw : FnScope N_L_draw ["_law_deck_here", "_law_many"] (defScope s_L_draw) := ⟨rfl, rfl, rfl, by decide +kernel, rfl, by decide +kernel, by decide +kernel⟩
def m_L_draw : MS :=
  mSeq (mSetIx (mBin .frz gAdd (mIx (mVar 0) (mC (.int 2))) (mC (.int 1))) (mVar 0) (mC (.int 2)))
    (mSeq (mAsg (mIx (mVar 0) (mC (.int 1))) (mgName 2))
    (mSeq (mIfS (mTst (mBin .ref (gEqN true) (mIx (mVar 0) (mC (.int 0))) (mDisp .frz false (mNil)))) (mSeq (mAsg (mBU "list" uPop (mIx (mVar 0) (mC (.int 0))) mNil) (mgName 2))
    (mIfS (mTst (mBin .ref gGe (mVar 2) (mBin .frz gPow (mC (.int 10)) (mC (.int 18))))) (mSeq (mExpr (mBU "list" uAppend (mIx (mVar 0) (mC (.int 0))) (mCons (mBin .frz gFdiv (mVar 2) (mVar 1)) (mNil))))
    (mRet (mBin .frz gMod (mVar 2) (mVar 1)))) (mSkip))) (mSkip))
    (mSeq (mAsg (mBin .frz gMod (mBin .frz gMul (mBin .frz gAdd (mBin .frz gAdd (mBin .frz gMod (mVar 2) (mC (.int 2147483629))) (mBin .frz gMul (mC (.int 65537)) (mIx (mVar 0) (mC (.int 2))))) (mC (.int 19))) (mC (.int 48271))) (mC (.int 2147483647))) (mgName 3))
    (mSeq (mAsg (mBin .frz gMod (mBin .frz gAdd (mBin .frz gAdd (mBin .frz gMul (mVar 3) (mVar 3)) (mBin .frz gMul (mC (.int 69621)) (mIx (mVar 0) (mC (.int 2))))) (mC (.int 23))) (mC (.int 2147483587))) (mgName 3))
    (mRet (mBin .frz gMod (mBin .frz gFdiv (mBin .frz gMod (mBin .frz gAdd (mBin .frz gMul (mVar 3) (mVar 3)) (mBin .frz gMul (mC (.int 39373)) (mVar 3))) (mC (.int 2147483563))) (mC (.int 64))) (mVar 1)))))))
def f_L_draw : List Mv → Sg → Res Mv := fnM N_L_draw.length m_L_draw
abbrev s_L_signs : Stmt := topS 14
abbrev N_L_signs : List Str := ["_law_some"]
theorem sc_L_signs : FnScope N_L_signs [] (defScope s_L_signs) := ⟨rfl, rfl, rfl, by decide +kernel, rfl, by decide +kernel, by decide +kernel⟩
def m_L_signs : MS :=
  mSeq (mAsg (mC (.str ("\n !\"#$&'()*+,-./0123456789:;<=>?@ABCDEFGHIJKLMNOPQRSTUVWXYZ[\\]^_`" : Str))) (mgName 0))
    (mRet (mBin .frz gAdd (mVar 0) (mC (.str ("abcdefghijklmnopqrstuvwxyz{|}~" : Str)))))
def f_L_signs : List Mv → Sg → Res Mv := fnM N_L_signs.length m_L_signs
abbrev s_L_thirty_two : Stmt := topS 15
abbrev N_L_thirty_two : List Str := ["_law_number", "_law_digits", "_law_found", "_law_k"]
theorem sc_L_thirty_two : FnScope N_L_thirty_two ["_law_number"] (defScope s_L_thirty_two) := ⟨rfl, rfl, rfl, by decide +kernel, rfl, by decide +kernel, by decide +kernel⟩
def m_L_thirty_two : MS :=
  mSeq (mAsg (mDisp .ref true (mCons (mC (.str ("0123456789abcdfghijklmnpqrsvwxyz" : Str))) (mCons (mC (.str ("" : Str))) (mNil)))) (mgTup 2 (mgCons (mgName 1) (mgCons (mgName 2) (mgNil)))))
    (mSeq (mFor (mRange1 (mCons (mC (.int 8)) (mNil))) (mgName 3) (mSeq (mAsg (mBin .frz gAdd (mIx (mVar 1) (mBin .frz gMod (mVar 0) (mC (.int 32)))) (mVar 2)) (mgName 2))
    (mAsg (mBin .frz gFdiv (mVar 0) (mC (.int 32))) (mgName 0))))
    (mRet (mVar 2)))
def f_L_thirty_two : List Mv → Sg → Res Mv := fnM N_L_thirty_two.length m_L_thirty_two
abbrev s_L_worth : Stmt := topS 18
abbrev N_L_worth : List Str := ["_law_mark_told", "_law_found", "_law_sign"]
theorem sc_L_worth : FnScope N_L_worth ["_law_mark_told"] (defScope s_L_worth) := ⟨rfl, rfl, rfl, by decide +kernel, rfl, by decide +kernel, by decide +kernel⟩
def m_L_worth : MS :=
  mSeq (mAsg (mC (.int 0)) (mgName 1))
    (mSeq (mFor (mIter (mVar 0)) (mgName 2) (mAsg (mBin .frz gAdd (mBin .frz gMul (mC (.int 32)) (mVar 1)) (mIndex (mC (.str ("0123456789abcdfghijklmnpqrsvwxyz" : Str))) (mCons (mVar 2) (mNil)))) (mgName 1)))
    (mRet (mVar 1)))
def f_L_worth : List Mv → Sg → Res Mv := fnM N_L_worth.length m_L_worth
abbrev s_L_written : Stmt := topS 16
abbrev N_L_written : List Str := ["_law_deck_here", "_law_way", "_law_long", "_law_signs_here", "_law_some", "_law_found", "_law_k"]
theorem sc_L_written : FnScope N_L_written ["_law_deck_here"] (defScope s_L_written) := ⟨rfl, rfl, rfl, by decide +kernel, rfl, by decide +kernel, by decide +kernel⟩
def m_L_written : MS :=
  mSeq (mAsg (mCall 2 f_L_draw [] (mCons (mVar 0) (mCons (mC (.int 5)) (mNil)))) (mgName 1))
    (mSeq (mAsg (mDisp .frz false (mCons (mCall 2 f_L_draw [] (mCons (mVar 0) (mCons (mC (.int 12)) (mNil)))) (mCons (mCall 2 f_L_draw [] (mCons (mVar 0) (mCons (mC (.int 60)) (mNil)))) (mCons (mCall 2 f_L_draw [] (mCons (mVar 0) (mCons (mC (.int 401)) (mNil)))) (mCons (mIx (mDisp .frz false (mCons (mC (.int 0)) (mCons (mC (.int 1)) (mCons (mC (.int 399)) (mCons (mC (.int 400)) (mNil)))))) (mCall 2 f_L_draw [] (mCons (mVar 0) (mCons (mC (.int 4)) (mNil))))) (mNil)))))) (mgName 2))
    (mSeq (mAsg (mIx (mVar 2) (mCall 2 f_L_draw [] (mCons (mVar 0) (mCons (mC (.int 4)) (mNil))))) (mgName 2))
    (mSeq (mAsg (mCall0 f_L_signs) (mgName 3))
    (mSeq (mAsg (mIx (mDisp .frz false (mCons (mVar 3) (mCons (mC (.str ("ab\n" : Str))) (mCons (mIx (mVar 3) (mCall 2 f_L_draw [] (mCons (mVar 0) (mCons (mCB .frz gLen (mCons (mVar 3) (mNil))) (mNil))))) (mCons (mC (.str ("#0az-;" : Str))) (mCons (mC (.str ("\n\\ ~" : Str))) (mNil))))))) (mVar 1)) (mgName 4))
    (mSeq (mAsg (mBM .frz "str" gJoin (mC (.str ("" : Str))) (mCons (mLc .frz (mRange1 (mCons (mVar 2) (mNil))) (mgName 6) mYes (mIx (mVar 4) (mCall 2 f_L_draw [] (mCons (mVar 0) (mCons (mCB .frz gLen (mCons (mVar 4) (mNil))) (mNil))))) [6]) (mNil))) (mgName 5))
    (mRet (mIf (mTst (mBin .ref (gEqN false) (mCall 2 f_L_draw [] (mCons (mVar 0) (mCons (mC (.int 8)) (mNil)))) (mC (.int 5)))) (mSl .frz (mBin .frz gMul (mBin .frz gAdd (mVar 5) (mC (.str ("a" : Str)))) (mC (.int 6000))) (mON) (mOS (mC (.int 5990)))) (mVar 5))))))))
def f_L_written : List Mv → Sg → Res Mv := fnM N_L_written.length m_L_written
abbrev s_L_by_powers : Stmt := topS 17
abbrev N_L_by_powers : List Str := ["_law_written_here", "_law_found", "_law_power", "_law_sign"]
theorem sc_L_by_powers : FnScope N_L_by_powers ["_law_written_here"] (defScope s_L_by_powers) := ⟨rfl, rfl, rfl, by decide +kernel, rfl, by decide +kernel, by decide +kernel⟩
def m_L_by_powers : MS :=
  mSeq (mAsg (mDisp .ref true (mCons (mC (.int 0)) (mCons (mC (.int 1)) (mNil)))) (mgTup 2 (mgCons (mgName 1) (mgCons (mgName 2) (mgNil)))))
    (mSeq (mFor (mIter (mRev .frz (mVar 0))) (mgName 3) (mSeq (mAsg (mBin .frz gMod (mBin .frz gAdd (mVar 1) (mBin .frz gMul (mVar 2) (mIndex (mCall0 f_L_signs) (mCons (mVar 3) (mNil))))) (mC (.int 1099511627689))) (mgName 1))
    (mAsg (mBin .frz gMod (mBin .frz gMul (mVar 2) (mC (.int 131))) (mC (.int 1099511627689))) (mgName 2))))
    (mRet (mCall 1 f_L_thirty_two [] (mCons (mBin .frz gMod (mBin .frz gAdd (mVar 1) (mBin .frz gMul (mC (.int 7)) (mVar 2))) (mC (.int 1099511627689))) (mNil)))))
def f_L_by_powers : List Mv → Sg → Res Mv := fnM N_L_by_powers.length m_L_by_powers
abbrev s_L_right : Stmt := topS 19
abbrev N_L_right : List Str := ["_law_deck_here", "_law_written_here", "_law_told", "_law_at", "_law_more"]
theorem sc_L_right : FnScope N_L_right ["_law_deck_here", "_law_written_here"] (defScope s_L_right) := ⟨rfl, rfl, rfl, by decide +kernel, rfl, by decide +kernel, by decide +kernel⟩
def m_L_right : MS :=
  mSeq (mAsg (mCall 1 f_mark_of [] (mCons (mVar 1) (mNil))) (mgName 2))
    (mSeq (mIfS (mOrB (mTst (mBin .ref (gEqN true) (mVar 2) (mCall 1 f_L_by_powers [] (mCons (mVar 1) (mNil))))) (mOrB (mTst (mBin .ref (gEqN true) (mCallK 1 f_mark_of [.k 0] [] mNil (mCons (mVar 1) (mNil))) (mVar 2))) (mOrB (mTst (mBin .ref (gIsN true) (mCall 1 f_is_mark [] (mCons (mVar 2) (mNil))) (mC (.bool true)))) (mTst (mBin .ref (gEqN true) (mCB .frz gLen (mCons (mVar 2) (mNil))) (mC (.int 8))))))) (mRet (mC (.bool false))) (mSkip))
    (mSeq (mAsg (mCall 2 f_L_draw [] (mCons (mVar 0) (mCons (mCB .frz gLen (mCons (mCall0 f_L_signs) (mNil))) (mNil)))) (mgName 3))
    (mSeq (mAsg (mCall 1 f_mark_of [] (mCons (mBin .frz gAdd (mVar 1) (mIx (mCall0 f_L_signs) (mVar 3))) (mNil))) (mgName 4))
    (mRet (mBin .ref (gEqN false) (mCall 1 f_L_worth [] (mCons (mVar 4) (mNil))) (mBin .frz gMod (mBin .frz gAdd (mBin .frz gMul (mC (.int 131)) (mCall 1 f_L_worth [] (mCons (mVar 2) (mNil)))) (mVar 3)) (mC (.int 1099511627689))))))))
def f_L_right : List Mv → Sg → Res Mv := fnM N_L_right.length m_L_right
abbrev s_law : Stmt := topS 20
abbrev N_law : List Str := ["_law_script", "_law_deck_here", "_law_asked", "_law_turn", "_law_one", "_law_at", "_law_other", "_law_written_here"]
theorem sc_law : FnScope N_law ["_law_script"] (defScope s_law) := ⟨rfl, rfl, rfl, by decide +kernel, rfl, by decide +kernel, by decide +kernel⟩
def m_law : MS :=
  mSeq (mAsg (mCall 1 f_L_deck [] (mCons (mVar 0) (mNil))) (mgName 1))
    (mSeq (mIfS (mOrB (mTst (mBin .ref (gEqN true) (mCB .frz gRepr (mCons (mDisp .ref true (mCons (mC (.int 2)) (mCons (mC (.int 400)) (mCons (mC (.int 7)) (mNil))))) (mNil))) (mC (.str ("(2, 400, 7)" : Str))))) (mTst (mBin .ref (gEqN true) (mCall 1 f_mark_of [] (mCons (mC (.str ("" : Str))) (mNil))) (mC (.str ("00000007" : Str)))))) (mRet (mC (.bool false))) (mSkip))
    (mSeq (mAsg (mDisp .own false (mNil)) (mgName 2))
    (mSeq (mFor (mRange1 (mCons (mC (.int 6)) (mNil))) (mgName 3) (mSeq (mAsg (mCall 1 f_L_written [] (mCons (mVar 1) (mNil))) (mgName 4))
    (mSeq (mAsg (mCall 2 f_L_draw [] (mCons (mVar 1) (mCons (mBin .frz gAdd (mCB .frz gLen (mCons (mVar 4) (mNil))) (mC (.int 1))) (mNil)))) (mgName 5))
    (mSeq (mAsg (mIx (mCall0 f_L_signs) (mCall 2 f_L_draw [] (mCons (mVar 1) (mCons (mCB .frz gLen (mCons (mCall0 f_L_signs) (mNil))) (mNil))))) (mgName 6))
    (mSeq (mExpr (mBU "list" uExtend (mVar 2) (mCons (mDisp .frz false (mCons (mVar 4) (mCons (mBin .frz gAdd (mSl .frz (mVar 4) (mON) (mOS (mVar 5))) (mSl .frz (mVar 4) (mOS (mBin .frz gAdd (mVar 5) (mC (.int 1)))) (mON))) (mCons (mBin .frz gAdd (mBin .frz gAdd (mSl .frz (mVar 4) (mON) (mOS (mVar 5))) (mVar 6)) (mSl .frz (mVar 4) (mOS (mBin .frz gAdd (mVar 5) (mC (.int 1)))) (mON))) (mNil))))) (mNil))))
    (mExpr (mBU "list" uAppend (mVar 2) (mCons (mBin .frz gAdd (mBin .frz gAdd (mSl .frz (mVar 4) (mON) (mOS (mVar 5))) (mRev .frz (mSl .frz (mVar 4) (mOS (mVar 5)) (mOS (mBin .frz gAdd (mVar 5) (mC (.int 2))))))) (mSl .frz (mVar 4) (mOS (mBin .frz gAdd (mVar 5) (mC (.int 2)))) (mON))) (mNil)))))))))
    (mSeq (mFor (mIter (mBin .frz gAdd (mVar 2) (mSl .frz (mVar 2) (mON) (mOS (mC (.int 2)))))) (mgName 7) (mIfS (mNotB (mTruth (mCall 2 f_L_right [] (mCons (mVar 1) (mCons (mVar 7) (mNil)))))) (mRet (mC (.bool false))) (mSkip)))
    (mRet (mC (.bool true)))))))
def f_law : List Mv → Sg → Res Mv := fnM N_law.length m_law
/-- what the top has left -/
structure Txt (K : PySem.W.Frag) (mg : Str → Option Value) where
  t_HANDS : Tok
  c_HANDS : mg "HANDS" = some (.int 2 t_HANDS)
  t_MOST : Tok
  c_MOST : mg "MOST" = some (.int 400 t_MOST)
  t_FIRST : Tok
  c_FIRST : mg "FIRST" = some (.int 7 t_FIRST)
  t_SIGNS : Tok
  c_SIGNS : mg "SIGNS" = some (.str k_SIGNS t_SIGNS)
  t_FIGURES : Tok
  c_FIGURES : mg "FIGURES" = some (.str k_FIGURES t_FIGURES)
  t_LONG : Tok
  c_LONG : mg "LONG" = some (.int 8 t_LONG)
  t_STEP : Tok
  c_STEP : mg "STEP" = some (.int 131 t_STEP)
  t_BOUND : Tok
  c_BOUND : mg "BOUND" = some (.int 1099511627689 t_BOUND)
  b_all : mg "all" = none
  b_divmod : mg "divmod" = none
  b_isinstance : mg "isinstance" = none
  b_len : mg "len" = none
  b_list : mg "list" = none
  b_range : mg "range" = none
  b_repr : mg "repr" = none
  b_str : mg "str" = none
  b_sum : mg "sum" = none
  a_is_mark : Addr
  d_is_mark : FuncData
  F_is_mark : Fun K "is_mark" "is_mark" s_is_mark a_is_mark d_is_mark
  g_is_mark : mg "is_mark" = some (.ref a_is_mark)
  bd_is_mark : L2.Binds K d_is_mark ["thing"] []
  a_mark_of : Addr
  d_mark_of : FuncData
  F_mark_of : Fun K "mark_of" "mark_of" s_mark_of a_mark_of d_mark_of
  g_mark_of : mg "mark_of" = some (.ref a_mark_of)
  bd_mark_of : L2.Binds K d_mark_of ["text"] []
  a_L_deck : Addr
  d_L_deck : FuncData
  F_L_deck : Fun K "_law_deck" "_law_deck" s_L_deck a_L_deck d_L_deck
  g_L_deck : mg "_law_deck" = some (.ref a_L_deck)
  bd_L_deck : L2.Binds K d_L_deck ["_law_script"] []
  a_L_draw : Addr
  d_L_draw : FuncData
  F_L_draw : Fun K "_law_draw" "_law_draw" s_L_draw a_L_draw d_L_draw
  g_L_draw : mg "_law_draw" = some (.ref a_L_draw)
  bd_L_draw : L2.Binds K d_L_draw ["_law_deck_here", "_law_many"] []
  a_L_signs : Addr
  d_L_signs : FuncData
  F_L_signs : Fun K "_law_signs" "_law_signs" s_L_signs a_L_signs d_L_signs
  g_L_signs : mg "_law_signs" = some (.ref a_L_signs)
  bd_L_signs : L2.Binds K d_L_signs [] []
  a_L_thirty_two : Addr
  d_L_thirty_two : FuncData
  F_L_thirty_two : Fun K "_law_thirty_two" "_law_thirty_two" s_L_thirty_two a_L_thirty_two d_L_thirty_two
  g_L_thirty_two : mg "_law_thirty_two" = some (.ref a_L_thirty_two)
  bd_L_thirty_two : L2.Binds K d_L_thirty_two ["_law_number"] []
  a_L_worth : Addr
  d_L_worth : FuncData
  F_L_worth : Fun K "_law_worth" "_law_worth" s_L_worth a_L_worth d_L_worth
  g_L_worth : mg "_law_worth" = some (.ref a_L_worth)
  bd_L_worth : L2.Binds K d_L_worth ["_law_mark_told"] []
  a_L_written : Addr
  d_L_written : FuncData
  F_L_written : Fun K "_law_written" "_law_written" s_L_written a_L_written d_L_written
  g_L_written : mg "_law_written" = some (.ref a_L_written)
  bd_L_written : L2.Binds K d_L_written ["_law_deck_here"] []
  a_L_by_powers : Addr
  d_L_by_powers : FuncData
  F_L_by_powers : Fun K "_law_by_powers" "_law_by_powers" s_L_by_powers a_L_by_powers d_L_by_powers
  g_L_by_powers : mg "_law_by_powers" = some (.ref a_L_by_powers)
  bd_L_by_powers : L2.Binds K d_L_by_powers ["_law_written_here"] []
  a_L_right : Addr
  d_L_right : FuncData
  F_L_right : Fun K "_law_right" "_law_right" s_L_right a_L_right d_L_right
  g_L_right : mg "_law_right" = some (.ref a_L_right)
  bd_L_right : L2.Binds K d_L_right ["_law_deck_here", "_law_written_here"] []
  a_law : Addr
  d_law : FuncData
  F_law : Fun K "law" "law" s_law a_law d_law
  g_law : mg "law" = some (.ref a_law)
  bd_law : L2.Binds K d_law ["_law_script"] []
  k_mark_of_text : ∀ (s : Shared) (ws r : List Value), K.In s.heap → ws.length = 1 → laid [] ws [] [.k 0] = some r → BindsTo s d_mark_of ⟨[], ((["text"] : List Str)).zip ws⟩ (((["text"] : List Str)).zip r)
section
variable {P : Program} {w : World} {K : PySem.W.Frag} {mg : Str → Option Value} {base : Heap}
theorem ok_is_mark (T : Txt K mg) : FnM P w K mg base 1 T.a_is_mark T.d_is_mark ["thing"] f_is_mark := by
  show FnM P w K mg base 1 T.a_is_mark T.d_is_mark ["thing"] (fnM N_is_mark.length m_is_mark)
  refine fn_m (m := m_is_mark) T.F_is_mark sc_is_mark fun cdv A outer s H E hr gd tk pa => ?_
  exact pmb_one (pms_ret (pm_and (pm_callB .frz c_isi (by rfl) T.b_isinstance (by decide +kernel) (pl_cons (pm_var 0) (pl_cons (pm_ty (by rfl) T.b_str (by decide +kernel)) (pl_nil)))) (pm_and (pm_cmp (o_eq hr.units) (nomark _) (pm_callB .frz c_len (by rfl) T.b_len PySem.boot_len (pl_cons (pm_var 0) (pl_nil))) (pm_globI (by rfl) T.c_LONG)) (pm_one (pm_callB .frz (c_all rfl) (by rfl) T.b_all (by decide +kernel) (pl_cons (pm_lc (own := [("sign", 1)]) .frz rfl sc_is_mark.nd (pim_seq (pm_var 0)) (blkOk_by (own := [("sign", 1)]) (N := N_is_mark) (sc := defScope s_is_mark) (by decide +kernel)) (fun _ _ _ _ _ => pmg_name (i := 1) sc_is_mark.nd rfl (by first | exact Or.inl rfl | exact Or.inr rfl)) (fun _ _ _ _ _ => ptm_nil) (fun _ _ _ _ _ => pm_cmp (o_in (units65 hr)) (by first | rfl | exact nomark _) (pm_var 1) (pm_globS (by rfl) T.c_FIGURES)) (by decide)) (pl_nil)))))))
theorem ok_mark_of (T : Txt K mg) : FnM P w K mg base 1 T.a_mark_of T.d_mark_of ["text"] f_mark_of := by
  show FnM P w K mg base 1 T.a_mark_of T.d_mark_of ["text"] (fnM N_mark_of.length m_mark_of)
  refine fn_m (m := m_mark_of) T.F_mark_of sc_mark_of fun cdv A outer s H E hr gd tk pa => ?_
  exact pmb_cons (pms_set (i := 1) sc_mark_of.nd rfl (by first | exact Or.inl rfl | exact Or.inr rfl) (pm_globI (by rfl) T.c_FIRST))
    (pmb_cons (pms_for pa rfl (pim_seq (pm_var 0)) (pmg_name (i := 2) sc_mark_of.nd rfl (by first | exact Or.inl rfl | exact Or.inr rfl)) (pmb_one (pms_set (i := 1) sc_mark_of.nd rfl (by first | exact Or.inl rfl | exact Or.inr rfl) (pm_bin .frz o_mod (pm_bin .frz o_add (pm_bin .frz o_mul (pm_globI (by rfl) T.c_STEP) (pm_var 1)) (pm_index rfl tk (pm_globS (by rfl) T.c_SIGNS) (pl_cons (pm_var 2) (pl_nil)))) (pm_globI (by rfl) T.c_BOUND)))))
    (pmb_cons (pms_set (i := 3) sc_mark_of.nd rfl (by first | exact Or.inl rfl | exact Or.inr rfl) (pm_str))
    (pmb_cons (pms_while 9 pa (pb_cmp o_lt (nomark _) (pm_callB .frz c_len (by rfl) T.b_len PySem.boot_len (pl_cons (pm_var 3) (pl_nil))) (pm_globI (by rfl) T.c_LONG)) (pmb_cons (pms_asg (pm_callB .frz c_divmod (by rfl) T.b_divmod (by decide +kernel) (pl_cons (pm_var 1) (pl_cons (pm_callB .frz c_len (by rfl) T.b_len PySem.boot_len (pl_cons (pm_globS (by rfl) T.c_FIGURES) (pl_nil))) (pl_nil)))) (pmg_tup rfl (pmgs_cons (pmg_name (i := 1) sc_mark_of.nd rfl (by first | exact Or.inl rfl | exact Or.inr rfl)) (pmgs_cons (pmg_name (i := 4) sc_mark_of.nd rfl (by first | exact Or.inl rfl | exact Or.inr rfl)) (pmgs_nil)))))
    (pmb_one (pms_set (i := 3) sc_mark_of.nd rfl (by first | exact Or.inl rfl | exact Or.inr rfl) (pm_bin .frz o_add (pm_ix (pm_globS (by rfl) T.c_FIGURES) (pm_var 4)) (pm_var 3))))))
    (pmb_one (pms_ret (pm_var 3))))))
theorem ok_L_deck (T : Txt K mg) : FnM P w K mg base 1 T.a_L_deck T.d_L_deck ["_law_script"] f_L_deck := by
  show FnM P w K mg base 1 T.a_L_deck T.d_L_deck ["_law_script"] (fnM N_L_deck.length m_L_deck)
  refine fn_m (m := m_L_deck) T.F_L_deck sc_L_deck fun cdv A outer s H E hr gd tk pa => ?_
  exact pmb_cons (pms_set (i := 1) sc_L_deck.nd rfl (by first | exact Or.inl rfl | exact Or.inr rfl) (pm_callTy .frz c_list (by rfl) T.b_list (by decide +kernel) (pl_cons (pm_sl .frz (pm_var 0) (pmo_none) (pmo_some (pm_int))) (pl_nil))))
    (pmb_one (pms_ret (pm_lst .ref (pl_cons (pm_rev .ref (pm_var 1)) (pl_cons (pm_bin .frz o_add (pm_callB .frz (c_sum rfl) (by rfl) T.b_sum (by decide +kernel) (pl_cons (pm_lc (own := [("_law_cell", 2)]) .frz rfl sc_L_deck.nd (pim_seq (pm_var 1)) (blkOk_by (own := [("_law_cell", 2)]) (N := N_L_deck) (sc := defScope s_L_deck) (by decide +kernel)) (fun _ _ _ _ _ => pmg_name (i := 2) sc_L_deck.nd rfl (by first | exact Or.inl rfl | exact Or.inr rfl)) (fun _ _ _ _ _ => ptm_nil) (fun _ _ _ _ _ => pm_bin .frz o_mod (pm_var 2) (pm_int)) (by decide)) (pl_nil))) (pm_bin .frz o_mul (pm_int) (pm_callB .frz c_len (by rfl) T.b_len PySem.boot_len (pl_cons (pm_var 1) (pl_nil))))) (pl_cons (pm_int) (pl_nil)))))))
theorem ok_L_draw (T : Txt K mg) : FnM P w K mg base 1 T.a_L_draw T.d_L_draw ["_law_deck_here", "_law_many"] f_L_draw := by
  show FnM P w K mg base 1 T.a_L_draw T.d_L_draw ["_law_deck_here", "_law_many"] (fnM N_L_draw.length m_L_draw)
  refine fn_m (m := m_L_draw) T.F_L_draw sc_L_draw fun cdv A outer s H E hr gd tk pa => ?_
  exact pmb_cons (pms_setIx (pm_bin .frz o_add (pm_ix (pm_var 0) (pm_int)) (pm_int)) (pm_var 0) (pm_int))
    (pmb_cons (pms_set (i := 2) sc_L_draw.nd rfl (by first | exact Or.inl rfl | exact Or.inr rfl) (pm_ix (pm_var 0) (pm_int)))
    (pmb_cons (pms_if (pb_cmp (o_ne hr.units) (nomark _) (pm_ix (pm_var 0) (pm_int)) (pm_lst .frz (pl_nil))) (pmb_cons (pms_set (i := 2) sc_L_draw.nd rfl (by first | exact Or.inl rfl | exact Or.inr rfl) (pm_bu0 PySem.F.plainAttrs_list PySem.F.slot_list_pop PySem.F.type_list_pop u_pop (pm_ix (pm_var 0) (pm_int))))
    (pmb_one (pms_if (pb_cmp o_ge (nomark _) (pm_var 2) (pm_bin .frz o_pow (pm_int) (pm_int))) (pmb_cons (pms_expr (pm_bu PySem.F.plainAttrs_list PySem.F.slot_list_append PySem.F.type_list_append u_append (pm_ix (pm_var 0) (pm_int)) (pl_cons (pm_bin .frz o_fdiv (pm_var 2) (pm_var 1)) (pl_nil))))
    (pmb_one (pms_ret (pm_bin .frz o_mod (pm_var 2) (pm_var 1))))) (pmb_nil)))) (pmb_nil))
    (pmb_cons (pms_set (i := 3) sc_L_draw.nd rfl (by first | exact Or.inl rfl | exact Or.inr rfl) (pm_bin .frz o_mod (pm_bin .frz o_mul (pm_bin .frz o_add (pm_bin .frz o_add (pm_bin .frz o_mod (pm_var 2) (pm_int)) (pm_bin .frz o_mul (pm_int) (pm_ix (pm_var 0) (pm_int)))) (pm_int)) (pm_int)) (pm_int)))
    (pmb_cons (pms_set (i := 3) sc_L_draw.nd rfl (by first | exact Or.inl rfl | exact Or.inr rfl) (pm_bin .frz o_mod (pm_bin .frz o_add (pm_bin .frz o_add (pm_bin .frz o_mul (pm_var 3) (pm_var 3)) (pm_bin .frz o_mul (pm_int) (pm_ix (pm_var 0) (pm_int)))) (pm_int)) (pm_int)))
    (pmb_one (pms_ret (pm_bin .frz o_mod (pm_bin .frz o_fdiv (pm_bin .frz o_mod (pm_bin .frz o_add (pm_bin .frz o_mul (pm_var 3) (pm_var 3)) (pm_bin .frz o_mul (pm_int) (pm_var 3))) (pm_int)) (pm_int)) (pm_var 1))))))))
theorem ok_L_signs (T : Txt K mg) : FnM P w K mg base 1 T.a_L_signs T.d_L_signs [] f_L_signs := by
  show FnM P w K mg base 1 T.a_L_signs T.d_L_signs [] (fnM N_L_signs.length m_L_signs)
  refine fn_m (m := m_L_signs) T.F_L_signs sc_L_signs fun cdv A outer s H E hr gd tk pa => ?_
  exact pmb_cons (pms_set (i := 0) sc_L_signs.nd rfl (by first | exact Or.inl rfl | exact Or.inr rfl) (pm_str))
    (pmb_one (pms_ret (pm_bin .frz o_add (pm_var 0) (pm_str))))
theorem ok_L_thirty_two (T : Txt K mg) : FnM P w K mg base 1 T.a_L_thirty_two T.d_L_thirty_two ["_law_number"] f_L_thirty_two := by
  show FnM P w K mg base 1 T.a_L_thirty_two T.d_L_thirty_two ["_law_number"] (fnM N_L_thirty_two.length m_L_thirty_two)
  refine fn_m (m := m_L_thirty_two) T.F_L_thirty_two sc_L_thirty_two fun cdv A outer s H E hr gd tk pa => ?_
  exact pmb_cons (pms_asg (pm_tup (pl_cons (pm_str) (pl_cons (pm_str) (pl_nil)))) (pmg_tup rfl (pmgs_cons (pmg_name (i := 1) sc_L_thirty_two.nd rfl (by first | exact Or.inl rfl | exact Or.inr rfl)) (pmgs_cons (pmg_name (i := 2) sc_L_thirty_two.nd rfl (by first | exact Or.inl rfl | exact Or.inr rfl)) (pmgs_nil)))))
    (pmb_cons (pms_for pa rfl (pim_range1 (by rfl) T.b_range (pl_cons (pm_int) (pl_nil))) (pmg_name (i := 3) sc_L_thirty_two.nd rfl (by first | exact Or.inl rfl | exact Or.inr rfl)) (pmb_cons (pms_set (i := 2) sc_L_thirty_two.nd rfl (by first | exact Or.inl rfl | exact Or.inr rfl) (pm_bin .frz o_add (pm_ix (pm_var 1) (pm_bin .frz o_mod (pm_var 0) (pm_int))) (pm_var 2)))
    (pmb_one (pms_set (i := 0) sc_L_thirty_two.nd rfl (by first | exact Or.inl rfl | exact Or.inr rfl) (pm_bin .frz o_fdiv (pm_var 0) (pm_int))))))
    (pmb_one (pms_ret (pm_var 2))))
theorem ok_L_worth (T : Txt K mg) : FnM P w K mg base 1 T.a_L_worth T.d_L_worth ["_law_mark_told"] f_L_worth := by
  show FnM P w K mg base 1 T.a_L_worth T.d_L_worth ["_law_mark_told"] (fnM N_L_worth.length m_L_worth)
  refine fn_m (m := m_L_worth) T.F_L_worth sc_L_worth fun cdv A outer s H E hr gd tk pa => ?_
  exact pmb_cons (pms_set (i := 1) sc_L_worth.nd rfl (by first | exact Or.inl rfl | exact Or.inr rfl) (pm_int))
    (pmb_cons (pms_for pa rfl (pim_seq (pm_var 0)) (pmg_name (i := 2) sc_L_worth.nd rfl (by first | exact Or.inl rfl | exact Or.inr rfl)) (pmb_one (pms_set (i := 1) sc_L_worth.nd rfl (by first | exact Or.inl rfl | exact Or.inr rfl) (pm_bin .frz o_add (pm_bin .frz o_mul (pm_int) (pm_var 1)) (pm_index rfl tk (pm_str) (pl_cons (pm_var 2) (pl_nil)))))))
    (pmb_one (pms_ret (pm_var 1))))
theorem ok_L_written (T : Txt K mg) : FnM P w K mg base 2 T.a_L_written T.d_L_written ["_law_deck_here"] f_L_written := by
  show FnM P w K mg base 2 T.a_L_written T.d_L_written ["_law_deck_here"] (fnM N_L_written.length m_L_written)
  refine fn_m (m := m_L_written) T.F_L_written sc_L_written fun cdv A outer s H E hr gd tk pa => ?_
  exact pmb_cons (pms_set (i := 1) sc_L_written.nd rfl (by first | exact Or.inl rfl | exact Or.inr rfl) (pm_call (ok_L_draw T) (hr.mono (by decide)) gd tk (by rfl) T.g_L_draw T.F_L_draw.kp T.bd_L_draw .nil (fun _ _ => .nil) (pl_cons (pm_var 0) (pl_cons (pm_int) (pl_nil)))))
    (pmb_cons (pms_set (i := 2) sc_L_written.nd rfl (by first | exact Or.inl rfl | exact Or.inr rfl) (pm_lst .frz (pl_cons (pm_call (ok_L_draw T) (hr.mono (by decide)) gd tk (by rfl) T.g_L_draw T.F_L_draw.kp T.bd_L_draw .nil (fun _ _ => .nil) (pl_cons (pm_var 0) (pl_cons (pm_int) (pl_nil)))) (pl_cons (pm_call (ok_L_draw T) (hr.mono (by decide)) gd tk (by rfl) T.g_L_draw T.F_L_draw.kp T.bd_L_draw .nil (fun _ _ => .nil) (pl_cons (pm_var 0) (pl_cons (pm_int) (pl_nil)))) (pl_cons (pm_call (ok_L_draw T) (hr.mono (by decide)) gd tk (by rfl) T.g_L_draw T.F_L_draw.kp T.bd_L_draw .nil (fun _ _ => .nil) (pl_cons (pm_var 0) (pl_cons (pm_int) (pl_nil)))) (pl_cons (pm_ix (pm_lst .frz (pl_cons (pm_int) (pl_cons (pm_int) (pl_cons (pm_int) (pl_cons (pm_int) (pl_nil)))))) (pm_call (ok_L_draw T) (hr.mono (by decide)) gd tk (by rfl) T.g_L_draw T.F_L_draw.kp T.bd_L_draw .nil (fun _ _ => .nil) (pl_cons (pm_var 0) (pl_cons (pm_int) (pl_nil))))) (pl_nil)))))))
    (pmb_cons (pms_set (i := 2) sc_L_written.nd rfl (by first | exact Or.inl rfl | exact Or.inr rfl) (pm_ix (pm_var 2) (pm_call (ok_L_draw T) (hr.mono (by decide)) gd tk (by rfl) T.g_L_draw T.F_L_draw.kp T.bd_L_draw .nil (fun _ _ => .nil) (pl_cons (pm_var 0) (pl_cons (pm_int) (pl_nil))))))
    (pmb_cons (pms_set (i := 3) sc_L_written.nd rfl (by first | exact Or.inl rfl | exact Or.inr rfl) (pm_call0 (ok_L_signs T) (hr.mono (by decide)) gd tk (by rfl) T.g_L_signs T.F_L_signs.kp T.bd_L_signs .nil))
    (pmb_cons (pms_set (i := 4) sc_L_written.nd rfl (by first | exact Or.inl rfl | exact Or.inr rfl) (pm_ix (pm_lst .frz (pl_cons (pm_var 3) (pl_cons (pm_str) (pl_cons (pm_ix (pm_var 3) (pm_call (ok_L_draw T) (hr.mono (by decide)) gd tk (by rfl) T.g_L_draw T.F_L_draw.kp T.bd_L_draw .nil (fun _ _ => .nil) (pl_cons (pm_var 0) (pl_cons (pm_callB .frz c_len (by rfl) T.b_len PySem.boot_len (pl_cons (pm_var 3) (pl_nil))) (pl_nil))))) (pl_cons (pm_str) (pl_cons (pm_str) (pl_nil))))))) (pm_var 1)))
    (pmb_cons (pms_set (i := 5) sc_L_written.nd rfl (by first | exact Or.inl rfl | exact Or.inr rfl) (pm_bm .frz PySem.F.plainAttrs_str PySem.F.slot_str_join PySem.F.type_str_join m_join (pm_str) (pl_cons (pm_lc (own := [("_law_k", 6)]) .frz rfl sc_L_written.nd (pim_range1 (by rfl) T.b_range (pl_cons (pm_var 2) (pl_nil))) (blkOk_by (own := [("_law_k", 6)]) (N := N_L_written) (sc := defScope s_L_written) (by decide +kernel)) (fun _ _ _ _ _ => pmg_name (i := 6) sc_L_written.nd rfl (by first | exact Or.inl rfl | exact Or.inr rfl)) (fun _ _ _ _ _ => ptm_nil) (fun _ _ _ _ _ => pm_ix (pm_var 4) (pm_call (ok_L_draw T) (hr.mono (by decide)) gd takes0 (by rfl) T.g_L_draw T.F_L_draw.kp T.bd_L_draw .nil (fun _ _ => .nil) (pl_cons (pm_var 0) (pl_cons (pm_callB .frz c_len (by rfl) T.b_len PySem.boot_len (pl_cons (pm_var 4) (pl_nil))) (pl_nil))))) (by decide)) (pl_nil))))
    (pmb_one (pms_ret (pm_if (pb_cmp (o_eq hr.units) (nomark _) (pm_call (ok_L_draw T) (hr.mono (by decide)) gd tk (by rfl) T.g_L_draw T.F_L_draw.kp T.bd_L_draw .nil (fun _ _ => .nil) (pl_cons (pm_var 0) (pl_cons (pm_int) (pl_nil)))) (pm_int)) (pm_sl .frz (pm_bin .frz o_mul (pm_bin .frz o_add (pm_var 5) (pm_str)) (pm_int)) (pmo_none) (pmo_some (pm_int))) (pm_var 5)))))))))
theorem ok_L_by_powers (T : Txt K mg) : FnM P w K mg base 2 T.a_L_by_powers T.d_L_by_powers ["_law_written_here"] f_L_by_powers := by
  show FnM P w K mg base 2 T.a_L_by_powers T.d_L_by_powers ["_law_written_here"] (fnM N_L_by_powers.length m_L_by_powers)
  refine fn_m (m := m_L_by_powers) T.F_L_by_powers sc_L_by_powers fun cdv A outer s H E hr gd tk pa => ?_
  exact pmb_cons (pms_asg (pm_tup (pl_cons (pm_int) (pl_cons (pm_int) (pl_nil)))) (pmg_tup rfl (pmgs_cons (pmg_name (i := 1) sc_L_by_powers.nd rfl (by first | exact Or.inl rfl | exact Or.inr rfl)) (pmgs_cons (pmg_name (i := 2) sc_L_by_powers.nd rfl (by first | exact Or.inl rfl | exact Or.inr rfl)) (pmgs_nil)))))
    (pmb_cons (pms_for pa rfl (pim_seq (pm_rev .frz (pm_var 0))) (pmg_name (i := 3) sc_L_by_powers.nd rfl (by first | exact Or.inl rfl | exact Or.inr rfl)) (pmb_cons (pms_set (i := 1) sc_L_by_powers.nd rfl (by first | exact Or.inl rfl | exact Or.inr rfl) (pm_bin .frz o_mod (pm_bin .frz o_add (pm_var 1) (pm_bin .frz o_mul (pm_var 2) (pm_index rfl tk (pm_call0 (ok_L_signs T) (hr.mono (by decide)) gd tk (by rfl) T.g_L_signs T.F_L_signs.kp T.bd_L_signs .nil) (pl_cons (pm_var 3) (pl_nil))))) (pm_int)))
    (pmb_one (pms_set (i := 2) sc_L_by_powers.nd rfl (by first | exact Or.inl rfl | exact Or.inr rfl) (pm_bin .frz o_mod (pm_bin .frz o_mul (pm_var 2) (pm_int)) (pm_int))))))
    (pmb_one (pms_ret (pm_call (ok_L_thirty_two T) (hr.mono (by decide)) gd tk (by rfl) T.g_L_thirty_two T.F_L_thirty_two.kp T.bd_L_thirty_two .nil (fun _ _ => .nil) (pl_cons (pm_bin .frz o_mod (pm_bin .frz o_add (pm_var 1) (pm_bin .frz o_mul (pm_int) (pm_var 2))) (pm_int)) (pl_nil))))))
theorem ok_L_right (T : Txt K mg) : FnM P w K mg base 3 T.a_L_right T.d_L_right ["_law_deck_here", "_law_written_here"] f_L_right := by
  show FnM P w K mg base 3 T.a_L_right T.d_L_right ["_law_deck_here", "_law_written_here"] (fnM N_L_right.length m_L_right)
  refine fn_m (m := m_L_right) T.F_L_right sc_L_right fun cdv A outer s H E hr gd tk pa => ?_
  exact pmb_cons (pms_set (i := 2) sc_L_right.nd rfl (by first | exact Or.inl rfl | exact Or.inr rfl) (pm_call (ok_mark_of T) (hr.mono (by decide)) gd tk (by rfl) T.g_mark_of T.F_mark_of.kp T.bd_mark_of .nil (fun _ _ => .nil) (pl_cons (pm_var 1) (pl_nil))))
    (pmb_cons (pms_if (pwb (pw_orM (pb_cmp (o_ne hr.units) (nomark _) (pm_var 2) (pm_call (ok_L_by_powers T) (hr.mono (by decide)) gd tk (by rfl) T.g_L_by_powers T.F_L_by_powers.kp T.bd_L_by_powers .nil (fun _ _ => .nil) (pl_cons (pm_var 1) (pl_nil)))) (pw_orM (pb_cmp (o_ne hr.units) (nomark _) (pm_callK0 (ks := ["text"]) (ok_mark_of T) (hr.mono (by decide)) gd tk (by rfl) T.g_mark_of T.F_mark_of.kp (T.k_mark_of_text) .nil (fun _ _ => .nil) (fun _ _ _ _ h => len_of_cons (fun _ _ _ _ h => len_of_nil h) h) (plk_cons (pm_var 1) (plk_nil))) (pm_var 2)) (pw_orM (pb_cmp o_isnot (nomark _) (pm_call (ok_is_mark T) (hr.mono (by decide)) gd tk (by rfl) T.g_is_mark T.F_is_mark.kp T.bd_is_mark .nil (fun _ _ => .nil) (pl_cons (pm_var 2) (pl_nil))) (pm_bl)) (pw_orM1 (pb_cmp (o_ne hr.units) (nomark _) (pm_callB .frz c_len (by rfl) T.b_len PySem.boot_len (pl_cons (pm_var 2) (pl_nil))) (pm_int))))))) (pmb_one (pms_ret (pm_bl))) (pmb_nil))
    (pmb_cons (pms_set (i := 3) sc_L_right.nd rfl (by first | exact Or.inl rfl | exact Or.inr rfl) (pm_call (ok_L_draw T) (hr.mono (by decide)) gd tk (by rfl) T.g_L_draw T.F_L_draw.kp T.bd_L_draw .nil (fun _ _ => .nil) (pl_cons (pm_var 0) (pl_cons (pm_callB .frz c_len (by rfl) T.b_len PySem.boot_len (pl_cons (pm_call0 (ok_L_signs T) (hr.mono (by decide)) gd tk (by rfl) T.g_L_signs T.F_L_signs.kp T.bd_L_signs .nil) (pl_nil))) (pl_nil)))))
    (pmb_cons (pms_set (i := 4) sc_L_right.nd rfl (by first | exact Or.inl rfl | exact Or.inr rfl) (pm_call (ok_mark_of T) (hr.mono (by decide)) gd tk (by rfl) T.g_mark_of T.F_mark_of.kp T.bd_mark_of .nil (fun _ _ => .nil) (pl_cons (pm_bin .frz o_add (pm_var 1) (pm_ix (pm_call0 (ok_L_signs T) (hr.mono (by decide)) gd tk (by rfl) T.g_L_signs T.F_L_signs.kp T.bd_L_signs .nil) (pm_var 3))) (pl_nil))))
    (pmb_one (pms_ret (pm_cmp (o_eq hr.units) (nomark _) (pm_call (ok_L_worth T) (hr.mono (by decide)) gd tk (by rfl) T.g_L_worth T.F_L_worth.kp T.bd_L_worth .nil (fun _ _ => .nil) (pl_cons (pm_var 4) (pl_nil))) (pm_bin .frz o_mod (pm_bin .frz o_add (pm_bin .frz o_mul (pm_int) (pm_call (ok_L_worth T) (hr.mono (by decide)) gd tk (by rfl) T.g_L_worth T.F_L_worth.kp T.bd_L_worth .nil (fun _ _ => .nil) (pl_cons (pm_var 2) (pl_nil)))) (pm_var 3)) (pm_int))))))))
theorem ok_law (T : Txt K mg) : FnM P w K mg base 4 T.a_law T.d_law ["_law_script"] f_law := by
  show FnM P w K mg base 4 T.a_law T.d_law ["_law_script"] (fnM N_law.length m_law)
  refine fn_m (m := m_law) T.F_law sc_law fun cdv A outer s H E hr gd tk pa => ?_
  exact pmb_cons (pms_set (i := 1) sc_law.nd rfl (by first | exact Or.inl rfl | exact Or.inr rfl) (pm_call (ok_L_deck T) (hr.mono (by decide)) gd tk (by rfl) T.g_L_deck T.F_L_deck.kp T.bd_L_deck .nil (fun _ _ => .nil) (pl_cons (pm_var 0) (pl_nil))))
    (pmb_cons (pms_if (pwb (pw_orM (pb_cmp (o_ne hr.units) (nomark _) (pm_callB .frz (c_repr gd (units128 hr)) (by rfl) T.b_repr (by decide +kernel) (pl_cons (pm_tup (pl_cons (pm_globI (by rfl) T.c_HANDS) (pl_cons (pm_globI (by rfl) T.c_MOST) (pl_cons (pm_globI (by rfl) T.c_FIRST) (pl_nil))))) (pl_nil))) (pm_str)) (pw_orM1 (pb_cmp (o_ne hr.units) (nomark _) (pm_call (ok_mark_of T) (hr.mono (by decide)) gd tk (by rfl) T.g_mark_of T.F_mark_of.kp T.bd_mark_of .nil (fun _ _ => .nil) (pl_cons (pm_str) (pl_nil))) (pm_str))))) (pmb_one (pms_ret (pm_bl))) (pmb_nil))
    (pmb_cons (pms_set (i := 2) sc_law.nd rfl (by first | exact Or.inl rfl | exact Or.inr rfl) (pm_lst .own (pl_nil)))
    (pmb_cons (pms_for pa rfl (pim_range1 (by rfl) T.b_range (pl_cons (pm_int) (pl_nil))) (pmg_name (i := 3) sc_law.nd rfl (by first | exact Or.inl rfl | exact Or.inr rfl)) (pmb_cons (pms_set (i := 4) sc_law.nd rfl (by first | exact Or.inl rfl | exact Or.inr rfl) (pm_call (ok_L_written T) (hr.mono (by decide)) gd tk (by rfl) T.g_L_written T.F_L_written.kp T.bd_L_written .nil (fun _ _ => .nil) (pl_cons (pm_var 1) (pl_nil))))
    (pmb_cons (pms_set (i := 5) sc_law.nd rfl (by first | exact Or.inl rfl | exact Or.inr rfl) (pm_call (ok_L_draw T) (hr.mono (by decide)) gd tk (by rfl) T.g_L_draw T.F_L_draw.kp T.bd_L_draw .nil (fun _ _ => .nil) (pl_cons (pm_var 1) (pl_cons (pm_bin .frz o_add (pm_callB .frz c_len (by rfl) T.b_len PySem.boot_len (pl_cons (pm_var 4) (pl_nil))) (pm_int)) (pl_nil)))))
    (pmb_cons (pms_set (i := 6) sc_law.nd rfl (by first | exact Or.inl rfl | exact Or.inr rfl) (pm_ix (pm_call0 (ok_L_signs T) (hr.mono (by decide)) gd tk (by rfl) T.g_L_signs T.F_L_signs.kp T.bd_L_signs .nil) (pm_call (ok_L_draw T) (hr.mono (by decide)) gd tk (by rfl) T.g_L_draw T.F_L_draw.kp T.bd_L_draw .nil (fun _ _ => .nil) (pl_cons (pm_var 1) (pl_cons (pm_callB .frz c_len (by rfl) T.b_len PySem.boot_len (pl_cons (pm_call0 (ok_L_signs T) (hr.mono (by decide)) gd tk (by rfl) T.g_L_signs T.F_L_signs.kp T.bd_L_signs .nil) (pl_nil))) (pl_nil))))))
    (pmb_cons (pms_expr (pm_bu PySem.F.plainAttrs_list PySem.F.slot_list_extend PySem.F.type_list_extend u_extend (pm_var 2) (pl_cons (pm_lst .frz (pl_cons (pm_var 4) (pl_cons (pm_bin .frz o_add (pm_sl .frz (pm_var 4) (pmo_none) (pmo_some (pm_var 5))) (pm_sl .frz (pm_var 4) (pmo_some (pm_bin .frz o_add (pm_var 5) (pm_int))) (pmo_none))) (pl_cons (pm_bin .frz o_add (pm_bin .frz o_add (pm_sl .frz (pm_var 4) (pmo_none) (pmo_some (pm_var 5))) (pm_var 6)) (pm_sl .frz (pm_var 4) (pmo_some (pm_bin .frz o_add (pm_var 5) (pm_int))) (pmo_none))) (pl_nil))))) (pl_nil))))
    (pmb_one (pms_expr (pm_bu PySem.F.plainAttrs_list PySem.F.slot_list_append PySem.F.type_list_append u_append (pm_var 2) (pl_cons (pm_bin .frz o_add (pm_bin .frz o_add (pm_sl .frz (pm_var 4) (pmo_none) (pmo_some (pm_var 5))) (pm_rev .frz (pm_sl .frz (pm_var 4) (pmo_some (pm_var 5)) (pmo_some (pm_bin .frz o_add (pm_var 5) (pm_int)))))) (pm_sl .frz (pm_var 4) (pmo_some (pm_bin .frz o_add (pm_var 5) (pm_int))) (pmo_none))) (pl_nil))))))))))
    (pmb_cons (pms_for pa rfl (pim_seq (pm_bin .frz o_add (pm_var 2) (pm_sl .frz (pm_var 2) (pmo_none) (pmo_some (pm_int))))) (pmg_name (i := 7) sc_law.nd rfl (by first | exact Or.inl rfl | exact Or.inr rfl)) (pmb_one (pms_if (pb_not (pb_of (pm_call (ok_L_right T) (hr.mono (by decide)) gd tk (by rfl) T.g_L_right T.F_L_right.kp T.bd_L_right .nil (fun _ _ => .nil) (pl_cons (pm_var 1) (pl_cons (pm_var 7) (pl_nil)))))) (pmb_one (pms_ret (pm_bl))) (pmb_nil))))
    (pmb_one (pms_ret (pm_bl)))))))
end
def txt {K : PySem.W.Frag} {h : Heap} {mg : Str → Option Value} (X : K.In h) (G : h.Ns mainGlobals mg) {t_HANDS : Tok}
  {t_MOST : Tok}
  {t_FIRST : Tok}
  {t_SIGNS : Tok}
  {t_FIGURES : Tok}
  {t_LONG : Tok}
  {t_STEP : Tok}
  {t_BOUND : Tok}
  {a_is_mark : Addr} {od_is_mark an_is_mark : Option Addr} {sl_is_mark : Array (Option Value)} {oc_is_mark kV_is_mark dc_is_mark pm_is_mark cd_is_mark ct_is_mark : Value}
  {a_mark_of : Addr} {od_mark_of an_mark_of : Option Addr} {sl_mark_of : Array (Option Value)} {oc_mark_of kV_mark_of dc_mark_of pm_mark_of cd_mark_of ct_mark_of : Value}
  {a_L_deck : Addr} {od_L_deck an_L_deck : Option Addr} {sl_L_deck : Array (Option Value)} {oc_L_deck kV_L_deck dc_L_deck pm_L_deck cd_L_deck ct_L_deck : Value}
  {a_L_draw : Addr} {od_L_draw an_L_draw : Option Addr} {sl_L_draw : Array (Option Value)} {oc_L_draw kV_L_draw dc_L_draw pm_L_draw cd_L_draw ct_L_draw : Value}
  {a_L_signs : Addr} {od_L_signs an_L_signs : Option Addr} {sl_L_signs : Array (Option Value)} {oc_L_signs kV_L_signs dc_L_signs pm_L_signs cd_L_signs ct_L_signs : Value}
  {a_L_thirty_two : Addr} {od_L_thirty_two an_L_thirty_two : Option Addr} {sl_L_thirty_two : Array (Option Value)} {oc_L_thirty_two kV_L_thirty_two dc_L_thirty_two pm_L_thirty_two cd_L_thirty_two ct_L_thirty_two : Value}
  {a_L_worth : Addr} {od_L_worth an_L_worth : Option Addr} {sl_L_worth : Array (Option Value)} {oc_L_worth kV_L_worth dc_L_worth pm_L_worth cd_L_worth ct_L_worth : Value}
  {a_L_written : Addr} {od_L_written an_L_written : Option Addr} {sl_L_written : Array (Option Value)} {oc_L_written kV_L_written dc_L_written pm_L_written cd_L_written ct_L_written : Value}
  {a_L_by_powers : Addr} {od_L_by_powers an_L_by_powers : Option Addr} {sl_L_by_powers : Array (Option Value)} {oc_L_by_powers kV_L_by_powers dc_L_by_powers pm_L_by_powers cd_L_by_powers ct_L_by_powers : Value}
  {a_L_right : Addr} {od_L_right an_L_right : Option Addr} {sl_L_right : Array (Option Value)} {oc_L_right kV_L_right dc_L_right pm_L_right cd_L_right ct_L_right : Value}
  {a_law : Addr} {od_law an_law : Option Addr} {sl_law : Array (Option Value)} {oc_law kV_law dc_law pm_law cd_law ct_law : Value}
  (h_HANDS : PySem.W.nsIn K mainGlobals "HANDS" = some (some (.int 2 t_HANDS)))
  (h_MOST : PySem.W.nsIn K mainGlobals "MOST" = some (some (.int 400 t_MOST)))
  (h_FIRST : PySem.W.nsIn K mainGlobals "FIRST" = some (some (.int 7 t_FIRST)))
  (h_SIGNS : PySem.W.nsIn K mainGlobals "SIGNS" = some (some (.str k_SIGNS t_SIGNS)))
  (h_FIGURES : PySem.W.nsIn K mainGlobals "FIGURES" = some (some (.str k_FIGURES t_FIGURES)))
  (h_LONG : PySem.W.nsIn K mainGlobals "LONG" = some (some (.int 8 t_LONG)))
  (h_STEP : PySem.W.nsIn K mainGlobals "STEP" = some (some (.int 131 t_STEP)))
  (h_BOUND : PySem.W.nsIn K mainGlobals "BOUND" = some (some (.int 1099511627689 t_BOUND)))
  (h_all : PySem.W.nsIn K mainGlobals "all" = some none)
  (h_divmod : PySem.W.nsIn K mainGlobals "divmod" = some none)
  (h_isinstance : PySem.W.nsIn K mainGlobals "isinstance" = some none)
  (h_len : PySem.W.nsIn K mainGlobals "len" = some none)
  (h_list : PySem.W.nsIn K mainGlobals "list" = some none)
  (h_range : PySem.W.nsIn K mainGlobals "range" = some none)
  (h_repr : PySem.W.nsIn K mainGlobals "repr" = some none)
  (h_str : PySem.W.nsIn K mainGlobals "str" = some none)
  (h_sum : PySem.W.nsIn K mainGlobals "sum" = some none)
  (g_is_mark : PySem.W.nsIn K mainGlobals "is_mark" = some (some (.ref a_is_mark))) (l_is_mark : K.lookup a_is_mark = some ⟨oc_is_mark, od_is_mark, .func (PySem.W.fnOf "is_mark" "is_mark" (defArgs s_is_mark) (defBody s_is_mark) (defScope s_is_mark) .none kV_is_mark dc_is_mark pm_is_mark an_is_mark cd_is_mark ct_is_mark), sl_is_mark⟩) (c_is_mark : PySem.W.codeIn K cd_is_mark "is_mark" = true) (p_is_mark : PySem.W.keepIn K (.ref a_is_mark) = true)
  (g_mark_of : PySem.W.nsIn K mainGlobals "mark_of" = some (some (.ref a_mark_of))) (l_mark_of : K.lookup a_mark_of = some ⟨oc_mark_of, od_mark_of, .func (PySem.W.fnOf "mark_of" "mark_of" (defArgs s_mark_of) (defBody s_mark_of) (defScope s_mark_of) .none kV_mark_of dc_mark_of pm_mark_of an_mark_of cd_mark_of ct_mark_of), sl_mark_of⟩) (c_mark_of : PySem.W.codeIn K cd_mark_of "mark_of" = true) (p_mark_of : PySem.W.keepIn K (.ref a_mark_of) = true)
  (g_L_deck : PySem.W.nsIn K mainGlobals "_law_deck" = some (some (.ref a_L_deck))) (l_L_deck : K.lookup a_L_deck = some ⟨oc_L_deck, od_L_deck, .func (PySem.W.fnOf "_law_deck" "_law_deck" (defArgs s_L_deck) (defBody s_L_deck) (defScope s_L_deck) .none kV_L_deck dc_L_deck pm_L_deck an_L_deck cd_L_deck ct_L_deck), sl_L_deck⟩) (c_L_deck : PySem.W.codeIn K cd_L_deck "_law_deck" = true) (p_L_deck : PySem.W.keepIn K (.ref a_L_deck) = true)
  (g_L_draw : PySem.W.nsIn K mainGlobals "_law_draw" = some (some (.ref a_L_draw))) (l_L_draw : K.lookup a_L_draw = some ⟨oc_L_draw, od_L_draw, .func (PySem.W.fnOf "_law_draw" "_law_draw" (defArgs s_L_draw) (defBody s_L_draw) (defScope s_L_draw) .none kV_L_draw dc_L_draw pm_L_draw an_L_draw cd_L_draw ct_L_draw), sl_L_draw⟩) (c_L_draw : PySem.W.codeIn K cd_L_draw "_law_draw" = true) (p_L_draw : PySem.W.keepIn K (.ref a_L_draw) = true)
  (g_L_signs : PySem.W.nsIn K mainGlobals "_law_signs" = some (some (.ref a_L_signs))) (l_L_signs : K.lookup a_L_signs = some ⟨oc_L_signs, od_L_signs, .func (PySem.W.fnOf "_law_signs" "_law_signs" (defArgs s_L_signs) (defBody s_L_signs) (defScope s_L_signs) .none kV_L_signs dc_L_signs pm_L_signs an_L_signs cd_L_signs ct_L_signs), sl_L_signs⟩) (c_L_signs : PySem.W.codeIn K cd_L_signs "_law_signs" = true) (p_L_signs : PySem.W.keepIn K (.ref a_L_signs) = true)
  (g_L_thirty_two : PySem.W.nsIn K mainGlobals "_law_thirty_two" = some (some (.ref a_L_thirty_two))) (l_L_thirty_two : K.lookup a_L_thirty_two = some ⟨oc_L_thirty_two, od_L_thirty_two, .func (PySem.W.fnOf "_law_thirty_two" "_law_thirty_two" (defArgs s_L_thirty_two) (defBody s_L_thirty_two) (defScope s_L_thirty_two) .none kV_L_thirty_two dc_L_thirty_two pm_L_thirty_two an_L_thirty_two cd_L_thirty_two ct_L_thirty_two), sl_L_thirty_two⟩) (c_L_thirty_two : PySem.W.codeIn K cd_L_thirty_two "_law_thirty_two" = true) (p_L_thirty_two : PySem.W.keepIn K (.ref a_L_thirty_two) = true)
  (g_L_worth : PySem.W.nsIn K mainGlobals "_law_worth" = some (some (.ref a_L_worth))) (l_L_worth : K.lookup a_L_worth = some ⟨oc_L_worth, od_L_worth, .func (PySem.W.fnOf "_law_worth" "_law_worth" (defArgs s_L_worth) (defBody s_L_worth) (defScope s_L_worth) .none kV_L_worth dc_L_worth pm_L_worth an_L_worth cd_L_worth ct_L_worth), sl_L_worth⟩) (c_L_worth : PySem.W.codeIn K cd_L_worth "_law_worth" = true) (p_L_worth : PySem.W.keepIn K (.ref a_L_worth) = true)
  (g_L_written : PySem.W.nsIn K mainGlobals "_law_written" = some (some (.ref a_L_written))) (l_L_written : K.lookup a_L_written = some ⟨oc_L_written, od_L_written, .func (PySem.W.fnOf "_law_written" "_law_written" (defArgs s_L_written) (defBody s_L_written) (defScope s_L_written) .none kV_L_written dc_L_written pm_L_written an_L_written cd_L_written ct_L_written), sl_L_written⟩) (c_L_written : PySem.W.codeIn K cd_L_written "_law_written" = true) (p_L_written : PySem.W.keepIn K (.ref a_L_written) = true)
  (g_L_by_powers : PySem.W.nsIn K mainGlobals "_law_by_powers" = some (some (.ref a_L_by_powers))) (l_L_by_powers : K.lookup a_L_by_powers = some ⟨oc_L_by_powers, od_L_by_powers, .func (PySem.W.fnOf "_law_by_powers" "_law_by_powers" (defArgs s_L_by_powers) (defBody s_L_by_powers) (defScope s_L_by_powers) .none kV_L_by_powers dc_L_by_powers pm_L_by_powers an_L_by_powers cd_L_by_powers ct_L_by_powers), sl_L_by_powers⟩) (c_L_by_powers : PySem.W.codeIn K cd_L_by_powers "_law_by_powers" = true) (p_L_by_powers : PySem.W.keepIn K (.ref a_L_by_powers) = true)
  (g_L_right : PySem.W.nsIn K mainGlobals "_law_right" = some (some (.ref a_L_right))) (l_L_right : K.lookup a_L_right = some ⟨oc_L_right, od_L_right, .func (PySem.W.fnOf "_law_right" "_law_right" (defArgs s_L_right) (defBody s_L_right) (defScope s_L_right) .none kV_L_right dc_L_right pm_L_right an_L_right cd_L_right ct_L_right), sl_L_right⟩) (c_L_right : PySem.W.codeIn K cd_L_right "_law_right" = true) (p_L_right : PySem.W.keepIn K (.ref a_L_right) = true)
  (g_law : PySem.W.nsIn K mainGlobals "law" = some (some (.ref a_law))) (l_law : K.lookup a_law = some ⟨oc_law, od_law, .func (PySem.W.fnOf "law" "law" (defArgs s_law) (defBody s_law) (defScope s_law) .none kV_law dc_law pm_law an_law cd_law ct_law), sl_law⟩) (c_law : PySem.W.codeIn K cd_law "law" = true) (p_law : PySem.W.keepIn K (.ref a_law) = true) : Txt K mg := ⟨t_HANDS, PySem.W.mg_of X G h_HANDS,
  t_MOST, PySem.W.mg_of X G h_MOST,
  t_FIRST, PySem.W.mg_of X G h_FIRST,
  t_SIGNS, PySem.W.mg_of X G h_SIGNS,
  t_FIGURES, PySem.W.mg_of X G h_FIGURES,
  t_LONG, PySem.W.mg_of X G h_LONG,
  t_STEP, PySem.W.mg_of X G h_STEP,
  t_BOUND, PySem.W.mg_of X G h_BOUND,
  PySem.W.mg_none_of X G h_all,
  PySem.W.mg_none_of X G h_divmod,
  PySem.W.mg_none_of X G h_isinstance,
  PySem.W.mg_none_of X G h_len,
  PySem.W.mg_none_of X G h_list,
  PySem.W.mg_none_of X G h_range,
  PySem.W.mg_none_of X G h_repr,
  PySem.W.mg_none_of X G h_str,
  PySem.W.mg_none_of X G h_sum,
  a_is_mark, _, fun_mk l_is_mark c_is_mark p_is_mark, PySem.W.mg_of X G g_is_mark, (fun_mk (st := s_is_mark) l_is_mark c_is_mark p_is_mark).binds (ps := ["thing"]) fun _ _ _ _ _ _ us hl => match us, hl with | [_], _ => rfl,
  a_mark_of, _, fun_mk l_mark_of c_mark_of p_mark_of, PySem.W.mg_of X G g_mark_of, (fun_mk (st := s_mark_of) l_mark_of c_mark_of p_mark_of).binds (ps := ["text"]) fun _ _ _ _ _ _ us hl => match us, hl with | [_], _ => rfl,
  a_L_deck, _, fun_mk l_L_deck c_L_deck p_L_deck, PySem.W.mg_of X G g_L_deck, (fun_mk (st := s_L_deck) l_L_deck c_L_deck p_L_deck).binds (ps := ["_law_script"]) fun _ _ _ _ _ _ us hl => match us, hl with | [_], _ => rfl,
  a_L_draw, _, fun_mk l_L_draw c_L_draw p_L_draw, PySem.W.mg_of X G g_L_draw, (fun_mk (st := s_L_draw) l_L_draw c_L_draw p_L_draw).binds (ps := ["_law_deck_here", "_law_many"]) fun _ _ _ _ _ _ us hl => match us, hl with | [_, _], _ => rfl,
  a_L_signs, _, fun_mk l_L_signs c_L_signs p_L_signs, PySem.W.mg_of X G g_L_signs, (fun_mk (st := s_L_signs) l_L_signs c_L_signs p_L_signs).binds (ps := []) fun _ _ _ _ _ _ us hl => match us, hl with | [], _ => rfl,
  a_L_thirty_two, _, fun_mk l_L_thirty_two c_L_thirty_two p_L_thirty_two, PySem.W.mg_of X G g_L_thirty_two, (fun_mk (st := s_L_thirty_two) l_L_thirty_two c_L_thirty_two p_L_thirty_two).binds (ps := ["_law_number"]) fun _ _ _ _ _ _ us hl => match us, hl with | [_], _ => rfl,
  a_L_worth, _, fun_mk l_L_worth c_L_worth p_L_worth, PySem.W.mg_of X G g_L_worth, (fun_mk (st := s_L_worth) l_L_worth c_L_worth p_L_worth).binds (ps := ["_law_mark_told"]) fun _ _ _ _ _ _ us hl => match us, hl with | [_], _ => rfl,
  a_L_written, _, fun_mk l_L_written c_L_written p_L_written, PySem.W.mg_of X G g_L_written, (fun_mk (st := s_L_written) l_L_written c_L_written p_L_written).binds (ps := ["_law_deck_here"]) fun _ _ _ _ _ _ us hl => match us, hl with | [_], _ => rfl,
  a_L_by_powers, _, fun_mk l_L_by_powers c_L_by_powers p_L_by_powers, PySem.W.mg_of X G g_L_by_powers, (fun_mk (st := s_L_by_powers) l_L_by_powers c_L_by_powers p_L_by_powers).binds (ps := ["_law_written_here"]) fun _ _ _ _ _ _ us hl => match us, hl with | [_], _ => rfl,
  a_L_right, _, fun_mk l_L_right c_L_right p_L_right, PySem.W.mg_of X G g_L_right, (fun_mk (st := s_L_right) l_L_right c_L_right p_L_right).binds (ps := ["_law_deck_here", "_law_written_here"]) fun _ _ _ _ _ _ us hl => match us, hl with | [_, _], _ => rfl,
  a_law, _, fun_mk l_law c_law p_law, PySem.W.mg_of X G g_law, (fun_mk (st := s_law) l_law c_law p_law).binds (ps := ["_law_script"]) fun _ _ _ _ _ _ us hl => match us, hl with | [_], _ => rfl,
  fun s ws r _ hl e => by
    match ws, hl with
    | [_], _ => cases e; exact fun_bindsG (fun_mk (st := s_mark_of) l_mark_of c_mark_of p_mark_of) s fun _ _ _ _ _ _ => rfl⟩
theorem all_mk {l : PySem.W.OpenLaw} {w : World} {K : PySem.W.Frag} {h : Heap} {mg : Str → Option Value} {fa : Addr} (X : K.In h) (G : h.Ns mainGlobals mg) (hfa : mg "law" = some (.ref fa)) {t_HANDS : Tok}
  {t_MOST : Tok}
  {t_FIRST : Tok}
  {t_SIGNS : Tok}
  {t_FIGURES : Tok}
  {t_LONG : Tok}
  {t_STEP : Tok}
  {t_BOUND : Tok}
  {a_is_mark : Addr} {od_is_mark an_is_mark : Option Addr} {sl_is_mark : Array (Option Value)} {oc_is_mark kV_is_mark dc_is_mark pm_is_mark cd_is_mark ct_is_mark : Value}
  {a_mark_of : Addr} {od_mark_of an_mark_of : Option Addr} {sl_mark_of : Array (Option Value)} {oc_mark_of kV_mark_of dc_mark_of pm_mark_of cd_mark_of ct_mark_of : Value}
  {a_L_deck : Addr} {od_L_deck an_L_deck : Option Addr} {sl_L_deck : Array (Option Value)} {oc_L_deck kV_L_deck dc_L_deck pm_L_deck cd_L_deck ct_L_deck : Value}
  {a_L_draw : Addr} {od_L_draw an_L_draw : Option Addr} {sl_L_draw : Array (Option Value)} {oc_L_draw kV_L_draw dc_L_draw pm_L_draw cd_L_draw ct_L_draw : Value}
  {a_L_signs : Addr} {od_L_signs an_L_signs : Option Addr} {sl_L_signs : Array (Option Value)} {oc_L_signs kV_L_signs dc_L_signs pm_L_signs cd_L_signs ct_L_signs : Value}
  {a_L_thirty_two : Addr} {od_L_thirty_two an_L_thirty_two : Option Addr} {sl_L_thirty_two : Array (Option Value)} {oc_L_thirty_two kV_L_thirty_two dc_L_thirty_two pm_L_thirty_two cd_L_thirty_two ct_L_thirty_two : Value}
  {a_L_worth : Addr} {od_L_worth an_L_worth : Option Addr} {sl_L_worth : Array (Option Value)} {oc_L_worth kV_L_worth dc_L_worth pm_L_worth cd_L_worth ct_L_worth : Value}
  {a_L_written : Addr} {od_L_written an_L_written : Option Addr} {sl_L_written : Array (Option Value)} {oc_L_written kV_L_written dc_L_written pm_L_written cd_L_written ct_L_written : Value}
  {a_L_by_powers : Addr} {od_L_by_powers an_L_by_powers : Option Addr} {sl_L_by_powers : Array (Option Value)} {oc_L_by_powers kV_L_by_powers dc_L_by_powers pm_L_by_powers cd_L_by_powers ct_L_by_powers : Value}
  {a_L_right : Addr} {od_L_right an_L_right : Option Addr} {sl_L_right : Array (Option Value)} {oc_L_right kV_L_right dc_L_right pm_L_right cd_L_right ct_L_right : Value}
  {a_law : Addr} {od_law an_law : Option Addr} {sl_law : Array (Option Value)} {oc_law kV_law dc_law pm_law cd_law ct_law : Value}
  (h_HANDS : PySem.W.nsIn K mainGlobals "HANDS" = some (some (.int 2 t_HANDS)))
  (h_MOST : PySem.W.nsIn K mainGlobals "MOST" = some (some (.int 400 t_MOST)))
  (h_FIRST : PySem.W.nsIn K mainGlobals "FIRST" = some (some (.int 7 t_FIRST)))
  (h_SIGNS : PySem.W.nsIn K mainGlobals "SIGNS" = some (some (.str k_SIGNS t_SIGNS)))
  (h_FIGURES : PySem.W.nsIn K mainGlobals "FIGURES" = some (some (.str k_FIGURES t_FIGURES)))
  (h_LONG : PySem.W.nsIn K mainGlobals "LONG" = some (some (.int 8 t_LONG)))
  (h_STEP : PySem.W.nsIn K mainGlobals "STEP" = some (some (.int 131 t_STEP)))
  (h_BOUND : PySem.W.nsIn K mainGlobals "BOUND" = some (some (.int 1099511627689 t_BOUND)))
  (h_all : PySem.W.nsIn K mainGlobals "all" = some none)
  (h_divmod : PySem.W.nsIn K mainGlobals "divmod" = some none)
  (h_isinstance : PySem.W.nsIn K mainGlobals "isinstance" = some none)
  (h_len : PySem.W.nsIn K mainGlobals "len" = some none)
  (h_list : PySem.W.nsIn K mainGlobals "list" = some none)
  (h_range : PySem.W.nsIn K mainGlobals "range" = some none)
  (h_repr : PySem.W.nsIn K mainGlobals "repr" = some none)
  (h_str : PySem.W.nsIn K mainGlobals "str" = some none)
  (h_sum : PySem.W.nsIn K mainGlobals "sum" = some none)
  (g_is_mark : PySem.W.nsIn K mainGlobals "is_mark" = some (some (.ref a_is_mark))) (l_is_mark : K.lookup a_is_mark = some ⟨oc_is_mark, od_is_mark, .func (PySem.W.fnOf "is_mark" "is_mark" (defArgs s_is_mark) (defBody s_is_mark) (defScope s_is_mark) .none kV_is_mark dc_is_mark pm_is_mark an_is_mark cd_is_mark ct_is_mark), sl_is_mark⟩) (c_is_mark : PySem.W.codeIn K cd_is_mark "is_mark" = true) (p_is_mark : PySem.W.keepIn K (.ref a_is_mark) = true)
  (g_mark_of : PySem.W.nsIn K mainGlobals "mark_of" = some (some (.ref a_mark_of))) (l_mark_of : K.lookup a_mark_of = some ⟨oc_mark_of, od_mark_of, .func (PySem.W.fnOf "mark_of" "mark_of" (defArgs s_mark_of) (defBody s_mark_of) (defScope s_mark_of) .none kV_mark_of dc_mark_of pm_mark_of an_mark_of cd_mark_of ct_mark_of), sl_mark_of⟩) (c_mark_of : PySem.W.codeIn K cd_mark_of "mark_of" = true) (p_mark_of : PySem.W.keepIn K (.ref a_mark_of) = true)
  (g_L_deck : PySem.W.nsIn K mainGlobals "_law_deck" = some (some (.ref a_L_deck))) (l_L_deck : K.lookup a_L_deck = some ⟨oc_L_deck, od_L_deck, .func (PySem.W.fnOf "_law_deck" "_law_deck" (defArgs s_L_deck) (defBody s_L_deck) (defScope s_L_deck) .none kV_L_deck dc_L_deck pm_L_deck an_L_deck cd_L_deck ct_L_deck), sl_L_deck⟩) (c_L_deck : PySem.W.codeIn K cd_L_deck "_law_deck" = true) (p_L_deck : PySem.W.keepIn K (.ref a_L_deck) = true)
  (g_L_draw : PySem.W.nsIn K mainGlobals "_law_draw" = some (some (.ref a_L_draw))) (l_L_draw : K.lookup a_L_draw = some ⟨oc_L_draw, od_L_draw, .func (PySem.W.fnOf "_law_draw" "_law_draw" (defArgs s_L_draw) (defBody s_L_draw) (defScope s_L_draw) .none kV_L_draw dc_L_draw pm_L_draw an_L_draw cd_L_draw ct_L_draw), sl_L_draw⟩) (c_L_draw : PySem.W.codeIn K cd_L_draw "_law_draw" = true) (p_L_draw : PySem.W.keepIn K (.ref a_L_draw) = true)
  (g_L_signs : PySem.W.nsIn K mainGlobals "_law_signs" = some (some (.ref a_L_signs))) (l_L_signs : K.lookup a_L_signs = some ⟨oc_L_signs, od_L_signs, .func (PySem.W.fnOf "_law_signs" "_law_signs" (defArgs s_L_signs) (defBody s_L_signs) (defScope s_L_signs) .none kV_L_signs dc_L_signs pm_L_signs an_L_signs cd_L_signs ct_L_signs), sl_L_signs⟩) (c_L_signs : PySem.W.codeIn K cd_L_signs "_law_signs" = true) (p_L_signs : PySem.W.keepIn K (.ref a_L_signs) = true)
  (g_L_thirty_two : PySem.W.nsIn K mainGlobals "_law_thirty_two" = some (some (.ref a_L_thirty_two))) (l_L_thirty_two : K.lookup a_L_thirty_two = some ⟨oc_L_thirty_two, od_L_thirty_two, .func (PySem.W.fnOf "_law_thirty_two" "_law_thirty_two" (defArgs s_L_thirty_two) (defBody s_L_thirty_two) (defScope s_L_thirty_two) .none kV_L_thirty_two dc_L_thirty_two pm_L_thirty_two an_L_thirty_two cd_L_thirty_two ct_L_thirty_two), sl_L_thirty_two⟩) (c_L_thirty_two : PySem.W.codeIn K cd_L_thirty_two "_law_thirty_two" = true) (p_L_thirty_two : PySem.W.keepIn K (.ref a_L_thirty_two) = true)
  (g_L_worth : PySem.W.nsIn K mainGlobals "_law_worth" = some (some (.ref a_L_worth))) (l_L_worth : K.lookup a_L_worth = some ⟨oc_L_worth, od_L_worth, .func (PySem.W.fnOf "_law_worth" "_law_worth" (defArgs s_L_worth) (defBody s_L_worth) (defScope s_L_worth) .none kV_L_worth dc_L_worth pm_L_worth an_L_worth cd_L_worth ct_L_worth), sl_L_worth⟩) (c_L_worth : PySem.W.codeIn K cd_L_worth "_law_worth" = true) (p_L_worth : PySem.W.keepIn K (.ref a_L_worth) = true)
  (g_L_written : PySem.W.nsIn K mainGlobals "_law_written" = some (some (.ref a_L_written))) (l_L_written : K.lookup a_L_written = some ⟨oc_L_written, od_L_written, .func (PySem.W.fnOf "_law_written" "_law_written" (defArgs s_L_written) (defBody s_L_written) (defScope s_L_written) .none kV_L_written dc_L_written pm_L_written an_L_written cd_L_written ct_L_written), sl_L_written⟩) (c_L_written : PySem.W.codeIn K cd_L_written "_law_written" = true) (p_L_written : PySem.W.keepIn K (.ref a_L_written) = true)
  (g_L_by_powers : PySem.W.nsIn K mainGlobals "_law_by_powers" = some (some (.ref a_L_by_powers))) (l_L_by_powers : K.lookup a_L_by_powers = some ⟨oc_L_by_powers, od_L_by_powers, .func (PySem.W.fnOf "_law_by_powers" "_law_by_powers" (defArgs s_L_by_powers) (defBody s_L_by_powers) (defScope s_L_by_powers) .none kV_L_by_powers dc_L_by_powers pm_L_by_powers an_L_by_powers cd_L_by_powers ct_L_by_powers), sl_L_by_powers⟩) (c_L_by_powers : PySem.W.codeIn K cd_L_by_powers "_law_by_powers" = true) (p_L_by_powers : PySem.W.keepIn K (.ref a_L_by_powers) = true)
  (g_L_right : PySem.W.nsIn K mainGlobals "_law_right" = some (some (.ref a_L_right))) (l_L_right : K.lookup a_L_right = some ⟨oc_L_right, od_L_right, .func (PySem.W.fnOf "_law_right" "_law_right" (defArgs s_L_right) (defBody s_L_right) (defScope s_L_right) .none kV_L_right dc_L_right pm_L_right an_L_right cd_L_right ct_L_right), sl_L_right⟩) (c_L_right : PySem.W.codeIn K cd_L_right "_law_right" = true) (p_L_right : PySem.W.keepIn K (.ref a_L_right) = true)
  (g_law : PySem.W.nsIn K mainGlobals "law" = some (some (.ref a_law))) (l_law : K.lookup a_law = some ⟨oc_law, od_law, .func (PySem.W.fnOf "law" "law" (defArgs s_law) (defBody s_law) (defScope s_law) .none kV_law dc_law pm_law an_law cd_law ct_law), sl_law⟩) (c_law : PySem.W.codeIn K cd_law "law" = true) (p_law : PySem.W.keepIn K (.ref a_law) = true) :
  ∃ (fd : FuncData) (m : List Mv → Sg → Res Mv), (∀ (s : Shared) (v : Value), BindsTo s fd ⟨[v], []⟩ [("_law_script", v)]) ∧ (∀ base : Heap, K.In base → base.Ns mainGlobals mg → FnM l.prog w K mg base 4 fa fd ["_law_script"] m) ∧ m = f_law := by
  have e := hfa.symm.trans (PySem.W.mg_of X G g_law)
  cases e
  exact ⟨_, f_law, fun s v => fun_bindsG (ps := ["_law_script"]) (args := ⟨[v], []⟩) (r := [v]) (fun_mk (st := s_law) l_law c_law p_law) s fun _ _ _ _ _ _ => rfl, fun base _ _ => ok_law (txt X G h_HANDS h_MOST h_FIRST h_SIGNS h_FIGURES h_LONG h_STEP h_BOUND h_all h_divmod h_isinstance h_len h_list h_range h_repr h_str h_sum g_is_mark l_is_mark c_is_mark p_is_mark g_mark_of l_mark_of c_mark_of p_mark_of g_L_deck l_L_deck c_L_deck p_L_deck g_L_draw l_L_draw c_L_draw p_L_draw g_L_signs l_L_signs c_L_signs p_L_signs g_L_thirty_two l_L_thirty_two c_L_thirty_two p_L_thirty_two g_L_worth l_L_worth c_L_worth p_L_worth g_L_written l_L_written c_L_written p_L_written g_L_by_powers l_L_by_powers c_L_by_powers p_L_by_powers g_L_right l_L_right c_L_right p_L_right g_law l_law c_law p_law), rfl⟩
end Law
end
section
set_option Elab.async false
set_option maxRecDepth 100000
set_option maxHeartbeats 4000000
set_option autoImplicit false
namespace Law
open PySem PySem.Spec PyProof.Rows L2 MM
local macro_rules | `(tactic| walk_at "mm") => `(tactic| simp (disch := first | omega | assumption | exact MM.Q.shaped_int | exact MM.Q.shaped_nil | exact MM.Q.shaped_ints | exact MM.Q.shaped_bool | (refine of_eq_true (eq_true ?_); first | with_unfolding_all rfl | (simp only [MM.Q.free_d, MM.Q.free_ref, MM.Q.free_adr, MM.Q.frees_nil, MM.Q.frees_cons, MM.Q.frees_map, Bool.and_true, Bool.true_and]; done)) | (simp only [List.length_cons, List.length_nil, List.append_nil, List.map_cons, List.map_nil, List.length_append, List.length_map, MM.Q.dI_len, PySem.sizeLine_eq]; omega)) only [MM.Q.bind_ok, MM.Q.bind_exc, MM.Q.go_ok, MM.Q.go_exc, MM.Q.nox_ok, MM.Q.vr_some, MM.Q.ev_var, MM.Q.ev_c, MM.Q.ev_k, MM.Q.frzO_some, MM.Q.tupO_some, MM.Q.tupO_none, MM.Q.bear_val, MM.Q.bear_frz, MM.Q.bear_ref, MM.Q.bear_own, MM.Q.bear_tup, MM.Q.allD_nil, MM.Q.allD_cons, MM.Q.allD_map, MM.Q.bearO_some, MM.Q.ev_bin, MM.Q.ev_bin1, MM.Q.ev_bin2, MM.Q.add_int, MM.Q.sub_int, MM.Q.mul_int, MM.Q.mod_int, MM.Q.fdiv_int, MM.Q.pow_int, MM.Q.intB_int, MM.Q.datO_f, MM.Q.datO_t, MM.Q.data_d, MM.Q.data_ref, MM.Q.data_own, MM.Q.ev_eq, MM.Q.eqO_some, MM.Q.eqC_t, MM.Q.eqC_f, MM.Q.eqv_nil, MM.Q.eqv_int, MM.Q.eqv_bool, MM.Q.in_str, MM.Q.notIn_str, MM.Q.is_bool, MM.Q.isnot_bool, MM.Q.tst_bool, MM.Q.ev_tst, MM.Q.ev_truth, MM.Q.ev_tru, MM.Q.truO_some, MM.Q.truth_bool, MM.Q.truth_int, MM.Q.truth_none, MM.Q.truth_list, MM.Q.truth_tup, MM.Q.ev_andB, MM.Q.ev_orB, MM.Q.ev_notB, MM.Q.andB_t, MM.Q.andB_f, MM.Q.orB_t, MM.Q.orB_f, MM.Q.ev_notB1, MM.Q.ev_and, MM.Q.ev_or, MM.Q.and_tB, MM.Q.and_fB, MM.Q.or_tB, MM.Q.or_fB, MM.Q.ev_not, MM.Q.ev_not1, MM.Q.notO_some, MM.Q.ev_ifE, MM.Q.ifE_t, MM.Q.ifE_f, MM.Q.ev_nil, MM.Q.ev_cons, MM.Q.ev_cons1, MM.Q.ev_cons2, MM.Q.ev_disp, MM.Q.disp_lst, MM.Q.disp_tup, MM.Q.frees_nil, MM.Q.frees_cons, MM.Q.free_d, MM.Q.free_ref, MM.Q.free_adr, MM.Q.dI_snoc, MM.Q.dI_len, MM.Q.allD_dI, MM.Q.dI_nil, MM.Q.allD_dIs, MM.Q.frees_map, MM.Q.ev_cb, MM.Q.ev_cb1, MM.Q.ev_call, MM.Q.ev_call1, MM.Q.ev_call0, MM.Q.ev_callK, MM.Q.ev_callK1, MM.Q.ev_callK2, MM.Q.ldd_some, MM.Q.laid_nil, MM.Q.laid_k, MM.Q.laid_p, MM.Q.ixO_some, MM.Q.ev_ix, MM.Q.ev_ix1, MM.Q.ev_ix2, MM.Q.ix_list, MM.Q.ix_tup, MM.Q.refS_lst, MM.Q.refS_tup, MM.Q.seq_ref, MM.Q.seq_own, MM.Q.seq_list, MM.Q.seq_tup, MM.Q.ixK_some, MM.Q.ix_ref, MM.Q.ix_own, MM.Q.listO_f, MM.Q.ev_list, MM.Q.at0, MM.Q.at1, MM.Q.at2, MM.Q.at3, MM.Q.at4, MM.Q.ixN0, MM.Q.ixN1, MM.Q.ixN2, MM.Q.ev_oN, MM.Q.ev_oS, MM.Q.oS_int, MM.Q.ev_sl, MM.Q.ev_sl1, MM.Q.ev_sl2, MM.Q.ev_sl3, MM.Q.sl_lst, MM.Q.ev_rev, MM.Q.rev_list, MM.Q.ev_bm, MM.Q.ev_bm1, MM.Q.cBM_t, MM.Q.ev_bm2, MM.Q.buO_some, MM.Q.ev_bu, MM.Q.ev_bu1, MM.Q.cBU_t, MM.Q.ev_bu2, MM.Q.ty_str, MM.Q.tyO_some, MM.Q.ty_ref, MM.Q.ty_own, MM.Q.ty_list, MM.Q.beq_ll, MM.Q.beq_ss, MM.Q.celO_some, MM.Q.cell_ref, MM.Q.cell_own, MM.Q.ev_append, MM.Q.appO_some, MM.Q.ev_extend, MM.Q.extO_some, MM.Q.ev_pop, MM.Q.popO_snoc, MM.Q.ev_ind, MM.Q.ev_ind1, MM.Q.ev_neg, MM.Q.neg_int, MM.Q.ev_iter, MM.Q.ev_it, MM.Q.itO_some, MM.Q.items_list, MM.Q.items_tup, MM.Q.ev_rg1, MM.Q.rg1_int, MM.Q.ev_lc, MM.Q.ev_lc1, MM.Q.ev_lc2, MM.Q.wipe_nil, MM.Q.wipe_cons, MM.Q.ev_seq, MM.Q.seq_nx, MM.Q.seq_rt, MM.Q.seq_exc, MM.Q.seq_bk, MM.Q.seq_ct, MM.Q.ev_asg, MM.Q.ev_asg1, MM.Q.nxO_some, MM.Q.mg_name, MM.Q.mg_nil, MM.Q.mg_consN, MM.Q.mg_tup, MM.Q.ev_expr, MM.Q.ev_expr1, MM.Q.ev_ret, MM.Q.ev_ret1, MM.Q.ev_retN, MM.Q.ev_skip, MM.Q.ev_brk, MM.Q.ev_cnt, MM.Q.ev_if, MM.Q.if_t, MM.Q.if_f, MM.Q.ev_for, MM.Q.ev_for1, MM.Q.ev_fz, MM.Q.fz_own, MM.Q.fzC_some, MM.Q.fzO_some, MM.Q.fz_d, MM.Q.fz_ref, MM.Q.stO_some, MM.Q.ev_st, MM.Q.ev_st1, MM.Q.ev_st2, MM.Q.ev_st3, MM.Q.ev_setIx, MM.Q.siO_some, MM.Q.ev_par, MM.Q.ev_par1, MM.Q.nones_zero, MM.Q.nones_succ, MM.Q.begin_eq,  MM.Q.ev_fn, MM.Q.fin_rt, MM.Q.fin_ref, MM.Q.fin_nx, MM.Q.trim_same, MM.Q.trim_app, MM.Q.ev_len, MM.Q.ev_lst, MM.Q.ev_l1, MM.Q.ev_sum, MM.Q.ev_all, MM.Q.ev_any, MM.Q.ev_isi, MM.Q.kind_str, MM.Q.kind_int, MM.Q.kind_bool, MM.Q.kind_none, MM.Q.kind_dict, MM.Q.kind_list, MM.Q.kind_tup, MM.Q.kit_ss, MM.Q.kit_is, MM.Q.kit_bs, MM.Q.kit_ns, MM.Q.kit_ds, MM.Q.kit_ls, MM.Q.kit_ts, MM.Q.ev_repr, MM.Q.ev_join, MM.Q.lenO_some, MM.Q.len_list, MM.Q.len_tup, MM.Q.lnO_some, MM.Q.len_ref, MM.Q.len_own, MM.Q.lisO_some, MM.Q.l1O_some, MM.Q.ints_map, MM.Q.bools_map, MM.Q.strs_map, MM.Q.isiO_some, MM.Q.jnO_some, MM.Q.len_st, MM.Q.add_st, MM.Q.mul_st, MM.Q.ix_st, MM.Q.sl_st, MM.Q.rev_st, MM.Q.eqv_st, MM.Q.divmod_int, MM.Q.items_st, MM.Q.allD_mapf, MM.Q.strs_mapf, MM.Q.ints_mapf, MM.Q.bools_mapf, MM.Q.join_ones_some, 
  List.map_cons, List.map_nil, List.length_cons, List.length_nil, List.append_nil, List.nil_append, List.cons_append, List.getElem?_cons_zero, List.getElem?_cons_succ, List.set_cons_zero, List.set_cons_succ, Bool.and_true, Bool.true_and, Option.bind_some, Option.map_some, Nat.reduceAdd, Nat.reduceSub, Nat.add_sub_cancel, Nat.sub_self])
/-! the deck -/
def deckS (xs : List Int) (b c : Int) (T : Sg) : Sg := (false, .lst (Q.dI xs)) :: (false, .lst [.ref 0, .d (.int b), .d (.int c)]) :: T
theorem deckS_len {xs : List Int} {b c : Int} {T : Sg} : (deckS xs b c T).length = T.length + 2 := rfl
theorem deckS_get2 {xs : List Int} {b c : Int} {t : Bool × Mo} {T : Sg} : (deckS xs b c (t :: T))[2]? = some t := rfl
theorem deckS_set2 {xs : List Int} {b c : Int} {t u : Bool × Mo} {T : Sg} : (deckS xs b c (t :: T)).set 2 u = deckS xs b c (u :: T) := rfl
theorem draw_spec {xs : List Int} {b c k : Int} {T : Sg} (hk : 0 < k) (hk2 : k < 2 ^ 30) (hl : xs.length ≤ 63) :
    ∃ (r : Int) (ys : List Int) (c' : Int), f_L_draw [.ref 1, .d (.int k)] (deckS xs b c T) = .ok (.d (.int r)) (deckS ys b c' T) ∧ 0 ≤ r ∧ r < k ∧ ys.length ≤ 63 := by
  have p1 : ∀ z : Int, 0 ≤ z % 2147483647 ∧ z % 2147483647 < 2147483647 := fun z => ⟨Int.emod_nonneg _ (by decide), Int.emod_lt_of_pos _ (by decide)⟩
  have p2 : ∀ z : Int, 0 ≤ z % 2147483587 ∧ z % 2147483587 < 2147483587 := fun z => ⟨Int.emod_nonneg _ (by decide), Int.emod_lt_of_pos _ (by decide)⟩
  suffices h : ∃ (z : Int) (ys : List Int) (c' : Int), f_L_draw [.ref 1, .d (.int k)] (deckS xs b c T) = .ok (.d (.int (z % k))) (deckS ys b c' T) ∧ ys.length ≤ 63 by
    obtain ⟨z, ys, c', h, hl⟩ := h
    exact ⟨z % k, ys, c', h, Int.emod_nonneg _ (by omega), Int.emod_lt_of_pos _ hk, hl⟩
  rcases List.eq_nil_or_concat xs with rfl | ⟨ys, x, rfl⟩
  · suffices h : ∃ z : Int, f_L_draw [.ref 1, .d (.int k)] (deckS [] b c T) = .ok (.d (.int (z % k))) (deckS [] b (c + 1) T) from let ⟨z, h⟩ := h; ⟨z, [], c + 1, h, by simp⟩
    unfold f_L_draw m_L_draw deckS
    walk_at "mm"
    simp only [List.map_nil, List.isEmpty_nil, Bool.not_true]
    walk_at "mm"
    exact ⟨_, rfl⟩
  · rw [List.concat_eq_append] at hl ⊢
    have hl' : ys.length < 63 := by simp at hl; omega
    have e1 : (List.map PyData.int (ys ++ [x])).isEmpty = false := by simp
    by_cases hx : x ≥ 10 ^ 18
    · refine ⟨x, ys ++ [x / k], c + 1, ?_, by simpa using hl⟩
      unfold f_L_draw m_L_draw deckS
      walk_at "mm"
      simp only [e1, Bool.not_false]
      walk_at "mm"
      have e2 : decide ((10 : Int) ^ Int.toNat 18 ≤ x) = true := decide_eq_true (by simpa using hx)
      simp only [e2]
      walk_at "mm"
    · suffices h : ∃ z : Int, f_L_draw [.ref 1, .d (.int k)] (deckS (ys ++ [x]) b c T) = .ok (.d (.int (z % k))) (deckS ys b (c + 1) T) from let ⟨z, h⟩ := h; ⟨z, ys, c + 1, h, by omega⟩
      unfold f_L_draw m_L_draw deckS
      walk_at "mm"
      simp only [e1, Bool.not_false]
      walk_at "mm"
      have e2 : decide ((10 : Int) ^ Int.toNat 18 ≤ x) = false := decide_eq_false (by simpa using hx)
      simp only [e2]
      walk_at "mm"
      exact ⟨_, rfl⟩
theorem deck_spec {ns : List Int} (h : ns.length ≤ 63) : ∃ (xs : List Int) (b : Int), f_L_deck [.d (.list (ns.map PyData.int))] [] = .ok (.ref 1) (deckS xs b 0 []) ∧ xs.length ≤ 63 := by
  suffices e : ∃ b : Int, f_L_deck [.d (.list (ns.map PyData.int))] [] = .ok (.ref 1) (deckS ns.reverse b 0 []) from let ⟨b, e⟩ := e; ⟨_, b, e, by rw [List.length_reverse]; exact h⟩
  have hm : ∀ (ρ : Rho) (S : Sg), ρ.length = 3 → lcLoop (mgName 2) mYes (mBin .frz gMod (mVar 2) (mC (.int 1000003))) ρ ((ns.map PyData.int).map .d) [] S = .ok (((ns.map (· % 1000003)).map PyData.int).map .d) S := by
    intro ρ S hρ
    have := @Q.lc_mapF ρ S Int (mgName 2) (mBin .frz gMod (mVar 2) (mC (.int 1000003))) (fun n => .d (.int n)) (fun n => .d (.int (n % 1000003))) ns [] (fun a _ => ⟨ρ.set 2 (some (.d (.int a))), rfl, by
      obtain ⟨x, y, z, rfl⟩ : ∃ x y z, ρ = [x, y, z] := by
        match ρ, hρ with
        | [x, y, z], _ => exact ⟨x, y, z, rfl⟩
      walk_at "mm", rfl⟩) (by rw [PySem.sizeLine_eq]; simp; omega)
    simpa [List.map_map, Function.comp_def] using this
  unfold f_L_deck m_L_deck deckS
  walk_at "mm"
  rw [Q.cutM_L, Q.cutL_map, Q.cutL_map, show (63 : Int) = ((63 : Nat) : Int) from rfl, Q.cutL_to, List.take_of_length_le h]
  walk_at "mm"
  rw [← List.map_reverse, ← List.map_reverse, hm _ _ rfl]
  walk_at "mm"
  exact ⟨_, rfl⟩
end Law
end
section
set_option Elab.async false
set_option maxRecDepth 100000
set_option maxHeartbeats 4000000
set_option autoImplicit false
namespace Law
open PySem PySem.Spec PyProof.Rows L2 MM
local macro_rules | `(tactic| walk_at "mm") => `(tactic| simp (disch := first | omega | assumption | exact MM.Q.shaped_int | exact MM.Q.shaped_nil | exact MM.Q.shaped_ints | exact MM.Q.shaped_bool | (refine of_eq_true (eq_true ?_); first | with_unfolding_all rfl | (simp only [MM.Q.free_d, MM.Q.free_ref, MM.Q.free_adr, MM.Q.frees_nil, MM.Q.frees_cons, MM.Q.frees_map, Bool.and_true, Bool.true_and]; done)) | (simp only [List.length_cons, List.length_nil, List.append_nil, List.map_cons, List.map_nil, List.length_append, List.length_map, MM.Q.dI_len, PySem.sizeLine_eq]; omega)) only [MM.Q.bind_ok, MM.Q.bind_exc, MM.Q.go_ok, MM.Q.go_exc, MM.Q.nox_ok, MM.Q.vr_some, MM.Q.ev_var, MM.Q.ev_c, MM.Q.ev_k, MM.Q.frzO_some, MM.Q.tupO_some, MM.Q.tupO_none, MM.Q.bear_val, MM.Q.bear_frz, MM.Q.bear_ref, MM.Q.bear_own, MM.Q.bear_tup, MM.Q.allD_nil, MM.Q.allD_cons, MM.Q.allD_map, MM.Q.bearO_some, MM.Q.ev_bin, MM.Q.ev_bin1, MM.Q.ev_bin2, MM.Q.add_int, MM.Q.sub_int, MM.Q.mul_int, MM.Q.mod_int, MM.Q.fdiv_int, MM.Q.pow_int, MM.Q.intB_int, MM.Q.datO_f, MM.Q.datO_t, MM.Q.data_d, MM.Q.data_ref, MM.Q.data_own, MM.Q.ev_eq, MM.Q.eqO_some, MM.Q.eqC_t, MM.Q.eqC_f, MM.Q.eqv_nil, MM.Q.eqv_int, MM.Q.eqv_bool, MM.Q.in_str, MM.Q.notIn_str, MM.Q.is_bool, MM.Q.isnot_bool, MM.Q.tst_bool, MM.Q.ev_tst, MM.Q.ev_truth, MM.Q.ev_tru, MM.Q.truO_some, MM.Q.truth_bool, MM.Q.truth_int, MM.Q.truth_none, MM.Q.truth_list, MM.Q.truth_tup, MM.Q.ev_andB, MM.Q.ev_orB, MM.Q.ev_notB, MM.Q.andB_t, MM.Q.andB_f, MM.Q.orB_t, MM.Q.orB_f, MM.Q.ev_notB1, MM.Q.ev_and, MM.Q.ev_or, MM.Q.and_tB, MM.Q.and_fB, MM.Q.or_tB, MM.Q.or_fB, MM.Q.ev_not, MM.Q.ev_not1, MM.Q.notO_some, MM.Q.ev_ifE, MM.Q.ifE_t, MM.Q.ifE_f, MM.Q.ev_nil, MM.Q.ev_cons, MM.Q.ev_cons1, MM.Q.ev_cons2, MM.Q.ev_disp, MM.Q.disp_lst, MM.Q.disp_tup, MM.Q.frees_nil, MM.Q.frees_cons, MM.Q.free_d, MM.Q.free_ref, MM.Q.free_adr, MM.Q.dI_snoc, MM.Q.dI_len, MM.Q.allD_dI, MM.Q.dI_nil, MM.Q.allD_dIs, MM.Q.frees_map, MM.Q.ev_cb, MM.Q.ev_cb1, MM.Q.ev_call, MM.Q.ev_call1, MM.Q.ev_call0, MM.Q.ev_callK, MM.Q.ev_callK1, MM.Q.ev_callK2, MM.Q.ldd_some, MM.Q.laid_nil, MM.Q.laid_k, MM.Q.laid_p, MM.Q.ixO_some, MM.Q.ev_ix, MM.Q.ev_ix1, MM.Q.ev_ix2, MM.Q.ix_list, MM.Q.ix_tup, MM.Q.refS_lst, MM.Q.refS_tup, MM.Q.seq_ref, MM.Q.seq_own, MM.Q.seq_list, MM.Q.seq_tup, MM.Q.ixK_some, MM.Q.ix_ref, MM.Q.ix_own, MM.Q.listO_f, MM.Q.ev_list, MM.Q.at0, MM.Q.at1, MM.Q.at2, MM.Q.at3, MM.Q.at4, MM.Q.ixN0, MM.Q.ixN1, MM.Q.ixN2, MM.Q.ev_oN, MM.Q.ev_oS, MM.Q.oS_int, MM.Q.ev_sl, MM.Q.ev_sl1, MM.Q.ev_sl2, MM.Q.ev_sl3, MM.Q.sl_lst, MM.Q.ev_rev, MM.Q.rev_list, MM.Q.ev_bm, MM.Q.ev_bm1, MM.Q.cBM_t, MM.Q.ev_bm2, MM.Q.buO_some, MM.Q.ev_bu, MM.Q.ev_bu1, MM.Q.cBU_t, MM.Q.ev_bu2, MM.Q.ty_str, MM.Q.tyO_some, MM.Q.ty_ref, MM.Q.ty_own, MM.Q.ty_list, MM.Q.beq_ll, MM.Q.beq_ss, MM.Q.celO_some, MM.Q.cell_ref, MM.Q.cell_own, MM.Q.ev_append, MM.Q.appO_some, MM.Q.ev_extend, MM.Q.extO_some, MM.Q.ev_pop, MM.Q.popO_snoc, MM.Q.ev_ind, MM.Q.ev_ind1, MM.Q.ev_neg, MM.Q.neg_int, MM.Q.ev_iter, MM.Q.ev_it, MM.Q.itO_some, MM.Q.items_list, MM.Q.items_tup, MM.Q.ev_rg1, MM.Q.rg1_int, MM.Q.ev_lc, MM.Q.ev_lc1, MM.Q.ev_lc2, MM.Q.wipe_nil, MM.Q.wipe_cons, MM.Q.ev_seq, MM.Q.seq_nx, MM.Q.seq_rt, MM.Q.seq_exc, MM.Q.seq_bk, MM.Q.seq_ct, MM.Q.ev_asg, MM.Q.ev_asg1, MM.Q.nxO_some, MM.Q.mg_name, MM.Q.mg_nil, MM.Q.mg_consN, MM.Q.mg_tup, MM.Q.ev_expr, MM.Q.ev_expr1, MM.Q.ev_ret, MM.Q.ev_ret1, MM.Q.ev_retN, MM.Q.ev_skip, MM.Q.ev_brk, MM.Q.ev_cnt, MM.Q.ev_if, MM.Q.if_t, MM.Q.if_f, MM.Q.ev_for, MM.Q.ev_for1, MM.Q.ev_fz, MM.Q.fz_own, MM.Q.fzC_some, MM.Q.fzO_some, MM.Q.fz_d, MM.Q.fz_ref, MM.Q.stO_some, MM.Q.ev_st, MM.Q.ev_st1, MM.Q.ev_st2, MM.Q.ev_st3, MM.Q.ev_setIx, MM.Q.siO_some, MM.Q.ev_par, MM.Q.ev_par1, MM.Q.nones_zero, MM.Q.nones_succ, MM.Q.begin_eq, MM.Q.ev_fn, MM.Q.fin_rt, MM.Q.fin_ref, MM.Q.fin_nx, MM.Q.trim_same, MM.Q.trim_app, MM.Q.ev_len, MM.Q.ev_lst, MM.Q.ev_l1, MM.Q.ev_sum, MM.Q.ev_all, MM.Q.ev_any, MM.Q.ev_isi, MM.Q.kind_str, MM.Q.kind_int, MM.Q.kind_bool, MM.Q.kind_none, MM.Q.kind_dict, MM.Q.kind_list, MM.Q.kind_tup, MM.Q.kit_ss, MM.Q.kit_is, MM.Q.kit_bs, MM.Q.kit_ns, MM.Q.kit_ds, MM.Q.kit_ls, MM.Q.kit_ts, MM.Q.ev_repr, MM.Q.ev_join, MM.Q.lenO_some, MM.Q.len_list, MM.Q.len_tup, MM.Q.lnO_some, MM.Q.len_ref, MM.Q.len_own, MM.Q.lisO_some, MM.Q.l1O_some, MM.Q.ints_map, MM.Q.bools_map, MM.Q.strs_map, MM.Q.isiO_some, MM.Q.jnO_some, MM.Q.len_st, MM.Q.add_st, MM.Q.mul_st, MM.Q.ix_st, MM.Q.sl_st, MM.Q.rev_st, MM.Q.eqv_st, MM.Q.divmod_int, MM.Q.items_st, 
  List.map_cons, List.map_nil, List.length_cons, List.length_nil, List.append_nil, List.nil_append, List.cons_append, List.getElem?_cons_zero, List.getElem?_cons_succ, List.set_cons_zero, List.set_cons_succ, Bool.and_true, Bool.true_and, Option.bind_some, Option.map_some, Nat.reduceAdd, Nat.reduceSub, Nat.add_sub_cancel, Nat.sub_self])
/-! signs and figures -/
abbrev BB : Int := 1099511627689
def isG (c : Nat) : Bool := c == 10 || (decide (32 ≤ c) && decide (c ≤ 126) && c != 37)
def idx (c : Nat) : Nat := if c = 10 then 0 else if c < 37 then c - 31 else c - 32
def chr (i : Nat) : Nat := if i = 0 then 10 else if i < 6 then i + 31 else i + 32
def sgs : List Nat := (List.range 95).map chr
theorem sig_st : k_SIGNS = Q.st sgs := by decide +kernel
def fgs : List Nat := [48, 49, 50, 51, 52, 53, 54, 55, 56, 57, 97, 98, 99, 100, 102, 103, 104, 105, 106, 107, 108, 109, 110, 112, 113, 114, 115, 118, 119, 120, 121, 122]
theorem isG_lt {c : Nat} (h : isG c = true) : c < 127 := by
  unfold isG at h; simp at h; omega
theorem fig_st : k_FIGURES = Q.st fgs := by decide +kernel
theorem sig_idx {c : Nat} (h : isG c = true) : Txt.index0 k_SIGNS (Q.st [c]) = some (idx c) := by
  have : ∀ c < 127, isG c = true → Txt.index0 k_SIGNS (Q.st [c]) = some (idx c) := by decide +kernel
  exact this c (isG_lt h) h
def fg (i : Int) : Nat := fgs.getD i.toNat 48
theorem fg_idx {i : Int} (h : 0 ≤ i) (h2 : i < 32) : Txt.index0 k_FIGURES (Q.st [fg i]) = some i.toNat := by
  have : ∀ c < 32, Txt.index0 k_FIGURES (Q.st [fgs.getD c 48]) = some c := by decide +kernel
  exact this i.toNat (by omega)
theorem fg_at {i : Int} (h : 0 ≤ i) (h2 : i < 32) : atI (Q.cs k_FIGURES) i = some (fg i) := by
  have : ∀ c < 32, (Q.cs k_FIGURES)[c]? = some (fgs.getD c 48) := by decide +kernel
  have hl : (Q.cs k_FIGURES).length = 32 := by decide +kernel
  rw [Q.atI_nat h (by rw [hl]; omega), this i.toNat (by omega)]; rfl
theorem fg_mem {i : Int} : fg i ∈ fgs := by
  unfold fg
  by_cases h : i.toNat < 32
  · have : ∀ c < 32, fgs.getD c 48 ∈ fgs := by decide +kernel
    exact this _ h
  · rw [List.getD_eq_getElem?_getD, List.getElem?_eq_none (by show 32 ≤ _; omega)]; decide
/-! the number and the digits -/
def num (l : List Nat) (s : Int) : Int := l.foldl (fun n c => (131 * n + idx c) % BB) s
def dg : Nat → Int → List Nat → List Nat
  | 0, _, acc => acc
  | k + 1, n, acc => dg k (n / 32) (fg (n % 32) :: acc)
theorem dg_len : ∀ (k : Nat) (n : Int) (acc : List Nat), (dg k n acc).length = k + acc.length
  | 0, _, acc => by simp [dg]
  | k + 1, n, acc => by rw [dg, dg_len k]; simp; omega
theorem dg_mem : ∀ (k : Nat) (n : Int) (acc : List Nat), (∀ c ∈ acc, c ∈ fgs) → ∀ c ∈ dg k n acc, c ∈ fgs
  | 0, _, acc, h => h
  | k + 1, n, acc, h => dg_mem k _ _ fun c hc => by
    rcases List.mem_cons.mp hc with rfl | hc
    · exact fg_mem
    · exact h c hc
theorem num_range {l : List Nat} {s : Int} (h : 0 ≤ s) (h2 : s < BB) : 0 ≤ num l s ∧ num l s < BB := by
  unfold num
  induction l generalizing s with
  | nil => exact ⟨h, h2⟩
  | cons c r ih => exact ih (Int.emod_nonneg _ (by decide)) (Int.emod_lt_of_pos _ (by decide))
/-! by powers, from the end -/
def pw : List Nat → Int × Int
  | [] => (0, 1)
  | c :: r => (((pw r).1 + (pw r).2 * idx c) % BB, (pw r).2 * 131 % BB)
theorem pw_num : ∀ (l : List Nat) (s : Int), ((pw l).1 + s * (pw l).2) % BB = num l s % BB
  | [], s => by simp [pw, num]
  | c :: r, s => by
    have ih := pw_num r ((131 * s + idx c) % BB)
    show (((pw r).1 + (pw r).2 * idx c) % BB + s * ((pw r).2 * 131 % BB)) % BB = num r ((131 * s + idx c) % BB) % BB
    rw [← ih]
    generalize (pw r).1 = f
    generalize (pw r).2 = p
    have e1 : ((f + p * idx c) % BB + s * (p * 131 % BB)) % BB = (f + p * idx c + s * (p * 131)) % BB := by
      rw [Int.add_emod, Int.emod_emod_of_dvd _ (Int.dvd_refl _), Int.mul_emod s, Int.emod_emod_of_dvd _ (Int.dvd_refl _), ← Int.mul_emod, ← Int.add_emod]
    have e2 : (f + (131 * s + idx c) % BB * p) % BB = (f + (131 * s + idx c) * p) % BB := by
      rw [Int.add_emod, Int.mul_emod, Int.emod_emod_of_dvd _ (Int.dvd_refl _), ← Int.mul_emod, ← Int.add_emod]
    rw [e1, e2]
    congr 1
    grind
theorem pw_seven {l : List Nat} : ((pw l).1 + 7 * (pw l).2) % BB = num l 7 := by
  rw [pw_num]
  have := num_range (l := l) (s := 7) (by decide) (by decide)
  exact Int.emod_eq_of_lt this.1 this.2
/-! what a mark is worth -/
def figIdx (c : Nat) : Nat := fgs.idxOf c
theorem fig_idx {c : Nat} (h : c ∈ fgs) : Txt.index0 k_FIGURES (Q.st [c]) = some (figIdx c) := by
  have : ∀ c ∈ fgs, Txt.index0 k_FIGURES (Q.st [c]) = some (figIdx c) := by decide +kernel
  exact this c h
def wth (l : List Nat) (s : Int) : Int := l.foldl (fun n c => 32 * n + figIdx c) s
theorem figIdx_fg {i : Int} (h : 0 ≤ i) (h2 : i < 32) : (figIdx (fg i) : Int) = i := by
  have := fg_idx h h2
  rw [fig_idx fg_mem] at this
  have := Option.some.inj this
  omega
theorem wth_dg : ∀ (k : Nat) (n : Int) (acc : List Nat), 0 ≤ n → n < 32 ^ k → wth (dg k n acc) 0 = wth acc n
  | 0, n, acc, h, h2 => by
    have : n = 0 := by simp at h2; omega
    subst this; rfl
  | k + 1, n, acc, h, h2 => by
    rw [dg, wth_dg k (n / 32) _ (by omega) (by rw [Int.pow_succ] at h2; omega)]
    show wth acc (32 * (n / 32) + figIdx (fg (n % 32))) = _
    rw [figIdx_fg (by omega) (by omega)]
    congr 1
    omega
theorem sig_at {i : Int} (h : 0 ≤ i) (h2 : i < 95) : ∃ c, atI (Q.cs k_SIGNS) i = some c ∧ isG c = true ∧ (idx c : Int) = i := by
  have : ∀ c < 95, (Q.cs k_SIGNS)[c]? = some (chr c) ∧ isG (chr c) = true ∧ idx (chr c) = c := by decide +kernel
  have hl : (Q.cs k_SIGNS).length = 95 := by decide +kernel
  obtain ⟨e1, e2, e3⟩ := this i.toNat (by omega)
  exact ⟨chr i.toNat, by rw [Q.atI_nat h (by rw [hl]; omega), e1], e2, by rw [e3]; omega⟩
end Law
end
section
set_option Elab.async false
set_option maxRecDepth 100000
set_option maxHeartbeats 4000000
set_option autoImplicit false
namespace Law
open PySem PySem.Spec PyProof.Rows L2 MM
local macro_rules | `(tactic| walk_at "mm") => `(tactic| simp (disch := first | omega | assumption | exact MM.Q.shaped_int | exact MM.Q.shaped_nil | exact MM.Q.shaped_ints | exact MM.Q.shaped_bool | (refine of_eq_true (eq_true ?_); first | with_unfolding_all rfl | (simp only [MM.Q.free_d, MM.Q.free_ref, MM.Q.free_adr, MM.Q.frees_nil, MM.Q.frees_cons, MM.Q.frees_map, Bool.and_true, Bool.true_and]; done)) | (simp only [List.length_cons, List.length_nil, List.append_nil, List.map_cons, List.map_nil, List.length_append, List.length_map, MM.Q.dI_len, PySem.sizeLine_eq]; omega)) only [MM.Q.bind_ok, MM.Q.bind_exc, MM.Q.go_ok, MM.Q.go_exc, MM.Q.nox_ok, MM.Q.vr_some, MM.Q.ev_var, MM.Q.ev_c, MM.Q.ev_k, MM.Q.frzO_some, MM.Q.tupO_some, MM.Q.tupO_none, MM.Q.bear_val, MM.Q.bear_frz, MM.Q.bear_ref, MM.Q.bear_own, MM.Q.bear_tup, MM.Q.allD_nil, MM.Q.allD_cons, MM.Q.allD_map, MM.Q.bearO_some, MM.Q.ev_bin, MM.Q.ev_bin1, MM.Q.ev_bin2, MM.Q.add_int, MM.Q.sub_int, MM.Q.mul_int, MM.Q.mod_int, MM.Q.fdiv_int, MM.Q.pow_int, MM.Q.intB_int, MM.Q.datO_f, MM.Q.datO_t, MM.Q.data_d, MM.Q.data_ref, MM.Q.data_own, MM.Q.ev_eq, MM.Q.eqO_some, MM.Q.eqC_t, MM.Q.eqC_f, MM.Q.eqv_nil, MM.Q.eqv_int, MM.Q.eqv_bool, MM.Q.in_str, MM.Q.notIn_str, MM.Q.is_bool, MM.Q.isnot_bool, MM.Q.tst_bool, MM.Q.ev_tst, MM.Q.ev_truth, MM.Q.ev_tru, MM.Q.truO_some, MM.Q.truth_bool, MM.Q.truth_int, MM.Q.truth_none, MM.Q.truth_list, MM.Q.truth_tup, MM.Q.ev_andB, MM.Q.ev_orB, MM.Q.ev_notB, MM.Q.andB_t, MM.Q.andB_f, MM.Q.orB_t, MM.Q.orB_f, MM.Q.ev_notB1, MM.Q.ev_and, MM.Q.ev_or, MM.Q.and_tB, MM.Q.and_fB, MM.Q.or_tB, MM.Q.or_fB, MM.Q.ev_not, MM.Q.ev_not1, MM.Q.notO_some, MM.Q.ev_ifE, MM.Q.ifE_t, MM.Q.ifE_f, MM.Q.ev_nil, MM.Q.ev_cons, MM.Q.ev_cons1, MM.Q.ev_cons2, MM.Q.ev_disp, MM.Q.disp_lst, MM.Q.disp_tup, MM.Q.frees_nil, MM.Q.frees_cons, MM.Q.free_d, MM.Q.free_ref, MM.Q.free_adr, MM.Q.dI_snoc, MM.Q.dI_len, MM.Q.allD_dI, MM.Q.dI_nil, MM.Q.allD_dIs, MM.Q.frees_map, MM.Q.ev_cb, MM.Q.ev_cb1, MM.Q.ev_call, MM.Q.ev_call1, MM.Q.ev_call0, MM.Q.ev_callK, MM.Q.ev_callK1, MM.Q.ev_callK2, MM.Q.ldd_some, MM.Q.laid_nil, MM.Q.laid_k, MM.Q.laid_p, MM.Q.ixO_some, MM.Q.ev_ix, MM.Q.ev_ix1, MM.Q.ev_ix2, MM.Q.ix_list, MM.Q.ix_tup, MM.Q.refS_lst, MM.Q.refS_tup, MM.Q.seq_ref, MM.Q.seq_own, MM.Q.seq_list, MM.Q.seq_tup, MM.Q.ixK_some, MM.Q.ix_ref, MM.Q.ix_own, MM.Q.listO_f, MM.Q.ev_list, MM.Q.at0, MM.Q.at1, MM.Q.at2, MM.Q.at3, MM.Q.at4, MM.Q.ixN0, MM.Q.ixN1, MM.Q.ixN2, MM.Q.ev_oN, MM.Q.ev_oS, MM.Q.oS_int, MM.Q.ev_sl, MM.Q.ev_sl1, MM.Q.ev_sl2, MM.Q.ev_sl3, MM.Q.sl_lst, MM.Q.ev_rev, MM.Q.rev_list, MM.Q.ev_bm, MM.Q.ev_bm1, MM.Q.cBM_t, MM.Q.ev_bm2, MM.Q.buO_some, MM.Q.ev_bu, MM.Q.ev_bu1, MM.Q.cBU_t, MM.Q.ev_bu2, MM.Q.ty_str, MM.Q.tyO_some, MM.Q.ty_ref, MM.Q.ty_own, MM.Q.ty_list, MM.Q.beq_ll, MM.Q.beq_ss, MM.Q.celO_some, MM.Q.cell_ref, MM.Q.cell_own, MM.Q.ev_append, MM.Q.appO_some, MM.Q.ev_extend, MM.Q.extO_some, MM.Q.ev_pop, MM.Q.popO_snoc, MM.Q.ev_ind, MM.Q.ev_ind1, MM.Q.ev_neg, MM.Q.neg_int, MM.Q.ev_iter, MM.Q.ev_it, MM.Q.itO_some, MM.Q.items_list, MM.Q.items_tup, MM.Q.ev_rg1, MM.Q.rg1_int, MM.Q.ev_lc, MM.Q.ev_lc1, MM.Q.ev_lc2, MM.Q.wipe_nil, MM.Q.wipe_cons, MM.Q.ev_seq, MM.Q.seq_nx, MM.Q.seq_rt, MM.Q.seq_exc, MM.Q.seq_bk, MM.Q.seq_ct, MM.Q.ev_asg, MM.Q.ev_asg1, MM.Q.nxO_some, MM.Q.mg_name, MM.Q.mg_nil, MM.Q.mg_consN, MM.Q.mg_tup, MM.Q.ev_expr, MM.Q.ev_expr1, MM.Q.ev_ret, MM.Q.ev_ret1, MM.Q.ev_retN, MM.Q.ev_skip, MM.Q.ev_brk, MM.Q.ev_cnt, MM.Q.ev_if, MM.Q.if_t, MM.Q.if_f, MM.Q.ev_for, MM.Q.ev_for1, MM.Q.ev_fz, MM.Q.fz_own, MM.Q.fzC_some, MM.Q.fzO_some, MM.Q.fz_d, MM.Q.fz_ref, MM.Q.stO_some, MM.Q.ev_st, MM.Q.ev_st1, MM.Q.ev_st2, MM.Q.ev_st3, MM.Q.ev_setIx, MM.Q.siO_some, MM.Q.ev_par, MM.Q.ev_par1, MM.Q.nones_zero, MM.Q.nones_succ, MM.Q.begin_eq, MM.Q.ev_fn, MM.Q.fin_rt, MM.Q.fin_ref, MM.Q.fin_nx, MM.Q.trim_same, MM.Q.trim_app, MM.Q.ev_len, MM.Q.ev_lst, MM.Q.ev_l1, MM.Q.ev_sum, MM.Q.ev_all, MM.Q.ev_any, MM.Q.ev_isi, MM.Q.kind_str, MM.Q.kind_int, MM.Q.kind_bool, MM.Q.kind_none, MM.Q.kind_dict, MM.Q.kind_list, MM.Q.kind_tup, MM.Q.kit_ss, MM.Q.kit_is, MM.Q.kit_bs, MM.Q.kit_ns, MM.Q.kit_ds, MM.Q.kit_ls, MM.Q.kit_ts, MM.Q.ev_repr, MM.Q.ev_join, MM.Q.lenO_some, MM.Q.len_list, MM.Q.len_tup, MM.Q.lnO_some, MM.Q.len_ref, MM.Q.len_own, MM.Q.lisO_some, MM.Q.l1O_some, MM.Q.ints_map, MM.Q.bools_map, MM.Q.strs_map, MM.Q.isiO_some, MM.Q.jnO_some, MM.Q.len_st, MM.Q.add_st, MM.Q.mul_st, MM.Q.ix_st, MM.Q.sl_st, MM.Q.rev_st, MM.Q.eqv_st, MM.Q.divmod_int, MM.Q.items_st, 
  List.map_cons, List.map_nil, List.length_cons, List.length_nil, List.append_nil, List.nil_append, List.cons_append, List.getElem?_cons_zero, List.getElem?_cons_succ, List.set_cons_zero, List.set_cons_succ, Bool.and_true, Bool.true_and, Option.bind_some, Option.map_some, Nat.reduceAdd, Nat.reduceSub, Nat.add_sub_cancel, Nat.sub_self])
/-! the functions -/
theorem lit_f : (Str.ofString "0123456789abcdfghijklmnpqrsvwxyz") = Q.st fgs := by decide +kernel
theorem lit_e : (Str.ofString "") = Q.st [] := by decide +kernel
theorem fgs_len : fgs.length = 32 := by decide
theorem sgs_len : sgs.length = 95 := by decide
theorem spec_signs {S : Sg} : f_L_signs [] S = .ok (.d (.str (Q.st sgs))) S := by
  have e : gAdd S (.d (.str (Str.ofString "\n !\"#$&'()*+,-./0123456789:;<=>?@ABCDEFGHIJKLMNOPQRSTUVWXYZ[\\]^_`"))) (.d (.str (Str.ofString "abcdefghijklmnopqrstuvwxyz{|}~"))) = some (.val (.d (.str (Q.st sgs)))) := by
    rw [Q.add_str (by rw [PySem.sizeLine_eq]; decide +kernel), show (Str.ofString "\n !\"#$&'()*+,-./0123456789:;<=>?@ABCDEFGHIJKLMNOPQRSTUVWXYZ[\\]^_`") ++ (Str.ofString "abcdefghijklmnopqrstuvwxyz{|}~") = Q.st sgs from by decide +kernel]
  unfold f_L_signs m_L_signs
  walk_at "mm"
  rw [e]
  walk_at "mm"
theorem mark_loop {S : Sg} {t : Mv} : ∀ (l : List Nat) (s : Int) (o : Option Mv), (∀ c ∈ l, isG c = true) → ∃ o', mLoop (mgName 2) (mAsg (mBin .frz gMod (mBin .frz gAdd (mBin .frz gMul (mC (.int 131)) (mVar 1)) (mIndex (mC (.str k_SIGNS)) (mCons (mVar 2) (mNil)))) (mC (.int 1099511627689))) (mgName 1)) (l.map fun c => .d (.str (Q.st [c]))) [some t, some (.d (.int s)), o, none, none] S = .nx [some t, some (.d (.int (num l s))), o', none, none] S
  | [], s, o, _ => ⟨o, rfl⟩
  | c :: l, s, o, hg => by
    obtain ⟨o', e⟩ := mark_loop (t := t) (S := S) l ((131 * s + idx c) % BB) (some (.d (.str (Q.st [c])))) (fun d hd => hg d (List.mem_cons_of_mem _ hd))
    refine ⟨o', ?_⟩
    have hi := sig_idx (hg c (List.mem_cons_self ..))
    rw [List.map_cons, Q.loop_on (ρ1 := [some t, some (.d (.int s)), some (.d (.str (Q.st [c]))), none, none]) rfl (ρ2 := [some t, some (.d (.int ((131 * s + idx c) % BB))), some (.d (.str (Q.st [c]))), none, none]) (S2 := S) ?_, e]
    · rfl
    · walk_at "mm"
      rw [Q.ind_some hi]
      walk_at "mm"
theorem mark_while {S : Sg} {t o1 : Option Mv} : ∀ (k : Nat) (n : Int) (acc : List Nat) (o : Option Mv), acc.length + k = 8 → 0 ≤ n → ∃ n' o', mWhile (mTst (mBin .ref gLt (mCB .frz gLen (mCons (mVar 3) (mNil))) (mC (.int 8)))) (mSeq (mAsg (mCB .frz gDivmod (mCons (mVar 1) (mCons (mCB .frz gLen (mCons (mC (.str k_FIGURES)) (mNil))) (mNil)))) (mgTup 2 (mgCons (mgName 1) (mgCons (mgName 4) (mgNil)))))
    (mAsg (mBin .frz gAdd (mIx (mC (.str k_FIGURES)) (mVar 4)) (mVar 3)) (mgName 3))) (k + 1) [t, some (.d (.int n)), o1, some (.d (.str (Q.st acc))), o] S = .nx [t, n', o1, some (.d (.str (Q.st (dg k n acc)))), o'] S
  | 0, n, acc, o, h, h0 => by
    refine ⟨_, _, Q.wh_end ?_⟩
    walk_at "mm"
    simp only [decide_eq_false (show ¬ ((acc.length : Int) < 8) by omega)]
  | k + 1, n, acc, o, h, h0 => by
    obtain ⟨n', o', e⟩ := mark_while (S := S) (t := t) (o1 := o1) k (n / 32) (fg (n % 32) :: acc) (some (.d (.int (n % 32)))) (by simp; omega) (by omega)
    refine ⟨n', o', ?_⟩
    have ha : atI fgs (n % 32) = some (fg (n % 32)) := by
      have := fg_at (i := n % 32) (by omega) (by omega)
      rw [fig_st, Q.cs_st] at this
      exact this
    rw [dg, ← e]
    refine Q.wh_on (S1 := S) ?_ ?_
    · walk_at "mm"
      simp only [decide_eq_true (show ((acc.length : Int) < 8) by omega)]
    · rw [fig_st]
      have hl : fgs.length ≤ sizeLine := by rw [fgs_len, PySem.sizeLine_eq]; omega
      walk_at "mm"
      rw [fgs_len]
      walk_at "mm"
      rw [show ((32 : Nat) : Int) = 32 from rfl, ha]
      walk_at "mm"
theorem spec_mark {S : Sg} {l : List Nat} (hg : ∀ c ∈ l, isG c = true) : f_mark_of [.d (.str (Q.st l))] S = .ok (.d (.str (Q.st (dg 8 (num l 7) [])))) S := by
  obtain ⟨o, e⟩ := mark_loop (S := S) (t := .d (.str (Q.st l))) l 7 none hg
  obtain ⟨n', o', e2⟩ := mark_while (S := S) (t := some (.d (.str (Q.st l)))) (o1 := o) 8 (num l 7) [] none rfl (num_range (by decide) (by decide)).1
  unfold f_mark_of m_mark_of
  walk_at "mm"
  rw [e]
  walk_at "mm"
  rw [lit_e, e2]
  walk_at "mm"
end Law
end
section
set_option Elab.async false
set_option maxRecDepth 100000
set_option maxHeartbeats 4000000
set_option autoImplicit false
namespace Law
open PySem PySem.Spec PyProof.Rows L2 MM
local macro_rules | `(tactic| walk_at "mm") => `(tactic| simp (disch := first | omega | assumption | exact MM.Q.shaped_int | exact MM.Q.shaped_nil | exact MM.Q.shaped_ints | exact MM.Q.shaped_bool | (refine of_eq_true (eq_true ?_); first | with_unfolding_all rfl | (simp only [MM.Q.free_d, MM.Q.free_ref, MM.Q.free_adr, MM.Q.frees_nil, MM.Q.frees_cons, MM.Q.frees_map, Bool.and_true, Bool.true_and]; done)) | (simp only [List.length_cons, List.length_nil, List.append_nil, List.map_cons, List.map_nil, List.length_append, List.length_map, MM.Q.dI_len, PySem.sizeLine_eq]; omega)) only [MM.Q.bind_ok, MM.Q.bind_exc, MM.Q.go_ok, MM.Q.go_exc, MM.Q.nox_ok, MM.Q.vr_some, MM.Q.ev_var, MM.Q.ev_c, MM.Q.ev_k, MM.Q.frzO_some, MM.Q.tupO_some, MM.Q.tupO_none, MM.Q.bear_val, MM.Q.bear_frz, MM.Q.bear_ref, MM.Q.bear_own, MM.Q.bear_tup, MM.Q.allD_nil, MM.Q.allD_cons, MM.Q.allD_map, MM.Q.bearO_some, MM.Q.ev_bin, MM.Q.ev_bin1, MM.Q.ev_bin2, MM.Q.add_int, MM.Q.sub_int, MM.Q.mul_int, MM.Q.mod_int, MM.Q.fdiv_int, MM.Q.pow_int, MM.Q.intB_int, MM.Q.datO_f, MM.Q.datO_t, MM.Q.data_d, MM.Q.data_ref, MM.Q.data_own, MM.Q.ev_eq, MM.Q.eqO_some, MM.Q.eqC_t, MM.Q.eqC_f, MM.Q.eqv_nil, MM.Q.eqv_int, MM.Q.eqv_bool, MM.Q.in_str, MM.Q.notIn_str, MM.Q.is_bool, MM.Q.isnot_bool, MM.Q.tst_bool, MM.Q.ev_tst, MM.Q.ev_truth, MM.Q.ev_tru, MM.Q.truO_some, MM.Q.truth_bool, MM.Q.truth_int, MM.Q.truth_none, MM.Q.truth_list, MM.Q.truth_tup, MM.Q.ev_andB, MM.Q.ev_orB, MM.Q.ev_notB, MM.Q.andB_t, MM.Q.andB_f, MM.Q.orB_t, MM.Q.orB_f, MM.Q.ev_notB1, MM.Q.ev_and, MM.Q.ev_or, MM.Q.and_tB, MM.Q.and_fB, MM.Q.or_tB, MM.Q.or_fB, MM.Q.ev_not, MM.Q.ev_not1, MM.Q.notO_some, MM.Q.ev_ifE, MM.Q.ifE_t, MM.Q.ifE_f, MM.Q.ev_nil, MM.Q.ev_cons, MM.Q.ev_cons1, MM.Q.ev_cons2, MM.Q.ev_disp, MM.Q.disp_lst, MM.Q.disp_tup, MM.Q.frees_nil, MM.Q.frees_cons, MM.Q.free_d, MM.Q.free_ref, MM.Q.free_adr, MM.Q.dI_snoc, MM.Q.dI_len, MM.Q.allD_dI, MM.Q.dI_nil, MM.Q.allD_dIs, MM.Q.frees_map, MM.Q.ev_cb, MM.Q.ev_cb1, MM.Q.ev_call, MM.Q.ev_call1, MM.Q.ev_call0, MM.Q.ev_callK, MM.Q.ev_callK1, MM.Q.ev_callK2, MM.Q.ldd_some, MM.Q.laid_nil, MM.Q.laid_k, MM.Q.laid_p, MM.Q.ixO_some, MM.Q.ev_ix, MM.Q.ev_ix1, MM.Q.ev_ix2, MM.Q.ix_list, MM.Q.ix_tup, MM.Q.refS_lst, MM.Q.refS_tup, MM.Q.seq_ref, MM.Q.seq_own, MM.Q.seq_list, MM.Q.seq_tup, MM.Q.ixK_some, MM.Q.ix_ref, MM.Q.ix_own, MM.Q.listO_f, MM.Q.ev_list, MM.Q.at0, MM.Q.at1, MM.Q.at2, MM.Q.at3, MM.Q.at4, MM.Q.ixN0, MM.Q.ixN1, MM.Q.ixN2, MM.Q.ev_oN, MM.Q.ev_oS, MM.Q.oS_int, MM.Q.ev_sl, MM.Q.ev_sl1, MM.Q.ev_sl2, MM.Q.ev_sl3, MM.Q.sl_lst, MM.Q.ev_rev, MM.Q.rev_list, MM.Q.ev_bm, MM.Q.ev_bm1, MM.Q.cBM_t, MM.Q.ev_bm2, MM.Q.buO_some, MM.Q.ev_bu, MM.Q.ev_bu1, MM.Q.cBU_t, MM.Q.ev_bu2, MM.Q.ty_str, MM.Q.tyO_some, MM.Q.ty_ref, MM.Q.ty_own, MM.Q.ty_list, MM.Q.beq_ll, MM.Q.beq_ss, MM.Q.celO_some, MM.Q.cell_ref, MM.Q.cell_own, MM.Q.ev_append, MM.Q.appO_some, MM.Q.ev_extend, MM.Q.extO_some, MM.Q.ev_pop, MM.Q.popO_snoc, MM.Q.ev_ind, MM.Q.ev_ind1, MM.Q.ev_neg, MM.Q.neg_int, MM.Q.ev_iter, MM.Q.ev_it, MM.Q.itO_some, MM.Q.items_list, MM.Q.items_tup, MM.Q.ev_rg1, MM.Q.rg1_int, MM.Q.ev_lc, MM.Q.ev_lc1, MM.Q.ev_lc2, MM.Q.wipe_nil, MM.Q.wipe_cons, MM.Q.ev_seq, MM.Q.seq_nx, MM.Q.seq_rt, MM.Q.seq_exc, MM.Q.seq_bk, MM.Q.seq_ct, MM.Q.ev_asg, MM.Q.ev_asg1, MM.Q.nxO_some, MM.Q.mg_name, MM.Q.mg_nil, MM.Q.mg_consN, MM.Q.mg_tup, MM.Q.ev_expr, MM.Q.ev_expr1, MM.Q.ev_ret, MM.Q.ev_ret1, MM.Q.ev_retN, MM.Q.ev_skip, MM.Q.ev_brk, MM.Q.ev_cnt, MM.Q.ev_if, MM.Q.if_t, MM.Q.if_f, MM.Q.ev_for, MM.Q.ev_for1, MM.Q.ev_fz, MM.Q.fz_own, MM.Q.fzC_some, MM.Q.fzO_some, MM.Q.fz_d, MM.Q.fz_ref, MM.Q.stO_some, MM.Q.ev_st, MM.Q.ev_st1, MM.Q.ev_st2, MM.Q.ev_st3, MM.Q.ev_setIx, MM.Q.siO_some, MM.Q.ev_par, MM.Q.ev_par1, MM.Q.nones_zero, MM.Q.nones_succ, MM.Q.begin_eq,  MM.Q.ev_fn, MM.Q.fin_rt, MM.Q.fin_ref, MM.Q.fin_nx, MM.Q.trim_same, MM.Q.trim_app, MM.Q.ev_len, MM.Q.ev_lst, MM.Q.ev_l1, MM.Q.ev_sum, MM.Q.ev_all, MM.Q.ev_any, MM.Q.ev_isi, MM.Q.kind_str, MM.Q.kind_int, MM.Q.kind_bool, MM.Q.kind_none, MM.Q.kind_dict, MM.Q.kind_list, MM.Q.kind_tup, MM.Q.kit_ss, MM.Q.kit_is, MM.Q.kit_bs, MM.Q.kit_ns, MM.Q.kit_ds, MM.Q.kit_ls, MM.Q.kit_ts, MM.Q.ev_repr, MM.Q.ev_join, MM.Q.lenO_some, MM.Q.len_list, MM.Q.len_tup, MM.Q.lnO_some, MM.Q.len_ref, MM.Q.len_own, MM.Q.lisO_some, MM.Q.l1O_some, MM.Q.ints_map, MM.Q.bools_map, MM.Q.strs_map, MM.Q.isiO_some, MM.Q.jnO_some, MM.Q.len_st, MM.Q.add_st, MM.Q.mul_st, MM.Q.ix_st, MM.Q.sl_st, MM.Q.rev_st, MM.Q.eqv_st, MM.Q.divmod_int, MM.Q.items_st, MM.Q.allD_mapf, MM.Q.strs_mapf, MM.Q.ints_mapf, MM.Q.bools_mapf, MM.Q.join_ones_some, 
  List.map_cons, List.map_nil, List.length_cons, List.length_nil, List.append_nil, List.nil_append, List.cons_append, List.getElem?_cons_zero, List.getElem?_cons_succ, List.set_cons_zero, List.set_cons_succ, Bool.and_true, Bool.true_and, Option.bind_some, Option.map_some, Nat.reduceAdd, Nat.reduceSub, Nat.add_sub_cancel, Nat.sub_self])
/-! more functions -/
theorem fgs_lt {c : Nat} (h : c ∈ fgs) : c < 0x110000 := by
  have : ∀ c ∈ fgs, c < 0x110000 := by decide
  exact this c h
theorem spec_is_mark {S : Sg} {l : List Nat} (hl : l.length = 8) (h : ∀ c ∈ l, c ∈ fgs) : f_is_mark [.d (.str (Q.st l))] S = .ok (.d (.bool true)) S := by
  have hs : l.length ≤ sizeLine := by rw [PySem.sizeLine_eq]; omega
  unfold f_is_mark m_is_mark
  walk_at "mm"
  rw [hl]
  simp only [decide_eq_true (show ((8 : Nat) : Int) = 8 from rfl), Q.eqv_int, show ((8 : Nat) : Int) = 8 from rfl, beq_self_eq_true]
  walk_at "mm"
  have := @Q.lc_mapF [some (.d (.str (Q.st l))), none] S Nat (mgName 1) (mBin .ref (gInN false) (mVar 1) (mC (.str k_FIGURES))) (fun c => .d (.str (Q.st [c]))) (fun c => .d (.bool true)) l [] (fun c hc => ⟨[some (.d (.str (Q.st l))), some (.d (.str (Q.st [c])))], rfl, by
    walk_at "mm"
    rw [Q.in_sign, fig_st, Q.cs_st, decide_eq_true (h c hc)], rfl⟩) (by rw [PySem.sizeLine_eq]; simp; omega)
  rw [this, List.nil_append, show (l.map fun _ => Mv.d (.bool true)) = ((List.replicate l.length true).map PyData.bool).map .d from by simp [List.map_const']]
  walk_at "mm"
  rw [show (List.replicate l.length true).all id = true from by simp]
theorem thirty_loop {S : Sg} : ∀ (xs : List Mv) (n : Int) (acc : List Nat) (o : Option Mv), acc.length + xs.length ≤ 100 → 0 ≤ n → ∃ n' o', mLoop (mgName 3) (mSeq (mAsg (mBin .frz gAdd (mIx (mVar 1) (mBin .frz gMod (mVar 0) (mC (.int 32)))) (mVar 2)) (mgName 2)) (mAsg (mBin .frz gFdiv (mVar 0) (mC (.int 32))) (mgName 0))) xs [some (.d (.int n)), some (.d (.str (Q.st fgs))), some (.d (.str (Q.st acc))), o] S = .nx [n', some (.d (.str (Q.st fgs))), some (.d (.str (Q.st (dg xs.length n acc)))), o'] S
  | [], n, acc, o, _, _ => ⟨_, _, rfl⟩
  | x :: xs, n, acc, o, h, h0 => by
    rw [List.length_cons] at h
    obtain ⟨n', o', e⟩ := thirty_loop (S := S) xs (n / 32) (fg (n % 32) :: acc) (some x) (by rw [List.length_cons]; omega) (by omega)
    refine ⟨n', o', ?_⟩
    have ha : atI fgs (n % 32) = some (fg (n % 32)) := by
      have := fg_at (i := n % 32) (by omega) (by omega)
      rw [fig_st, Q.cs_st] at this
      exact this
    have hl : fgs.length ≤ sizeLine := by rw [fgs_len, PySem.sizeLine_eq]; omega
    rw [Q.loop_on (ρ1 := [some (.d (.int n)), some (.d (.str (Q.st fgs))), some (.d (.str (Q.st acc))), some x]) rfl (ρ2 := [some (.d (.int (n / 32))), some (.d (.str (Q.st fgs))), some (.d (.str (Q.st (fg (n % 32) :: acc)))), some x]) (S2 := S) ?_, e]
    · rfl
    · walk_at "mm"
      rw [ha]
      walk_at "mm"
theorem spec_thirty {S : Sg} {n : Int} (h0 : 0 ≤ n) : f_L_thirty_two [.d (.int n)] S = .ok (.d (.str (Q.st (dg 8 n [])))) S := by
  obtain ⟨n', o', e⟩ := thirty_loop (S := S) (rangeL 0 8) n [] none (by simp [rangeL]) h0
  unfold f_L_thirty_two m_L_thirty_two
  walk_at "mm"
  rw [show Int.toNat 8 = 8 from rfl, lit_f, lit_e, e]
  walk_at "mm"
  rw [show (rangeL 0 8).length = 8 from by simp [rangeL]]
theorem worth_loop {S : Sg} {t : Mv} : ∀ (l : List Nat) (s : Int) (o : Option Mv), (∀ c ∈ l, c ∈ fgs) → ∃ o', mLoop (mgName 2) (mAsg (mBin .frz gAdd (mBin .frz gMul (mC (.int 32)) (mVar 1)) (mIndex (mC (.str ("0123456789abcdfghijklmnpqrsvwxyz" : Str))) (mCons (mVar 2) (mNil)))) (mgName 1)) (l.map fun c => .d (.str (Q.st [c]))) [some t, some (.d (.int s)), o] S = .nx [some t, some (.d (.int (wth l s))), o'] S
  | [], s, o, _ => ⟨o, rfl⟩
  | c :: l, s, o, hg => by
    obtain ⟨o', e⟩ := worth_loop (t := t) (S := S) l (32 * s + figIdx c) (some (.d (.str (Q.st [c])))) (fun d hd => hg d (List.mem_cons_of_mem _ hd))
    refine ⟨o', ?_⟩
    have hi := fig_idx (hg c (List.mem_cons_self ..))
    rw [List.map_cons, Q.loop_on (ρ1 := [some t, some (.d (.int s)), some (.d (.str (Q.st [c])))]) rfl (ρ2 := [some t, some (.d (.int (32 * s + figIdx c))), some (.d (.str (Q.st [c])))]) (S2 := S) ?_, e]
    · rfl
    · walk_at "mm"
      rw [show (Str.ofString "0123456789abcdfghijklmnpqrsvwxyz") = k_FIGURES from rfl, Q.ind_some hi]
      walk_at "mm"
theorem spec_worth {S : Sg} {l : List Nat} (hg : ∀ c ∈ l, c ∈ fgs) : f_L_worth [.d (.str (Q.st l))] S = .ok (.d (.int (wth l 0))) S := by
  obtain ⟨o, e⟩ := worth_loop (S := S) (t := .d (.str (Q.st l))) l 0 none hg
  unfold f_L_worth m_L_worth
  walk_at "mm"
  rw [e]
  walk_at "mm"
def pstep (q : Int × Int) (c : Nat) : Int × Int := ((q.1 + q.2 * idx c) % BB, q.2 * 131 % BB)
theorem pw_fold (l : List Nat) : l.reverse.foldl pstep (0, 1) = pw l := by
  rw [List.foldl_reverse]
  induction l with
  | nil => rfl
  | cons c r ih => rw [List.foldr_cons, ih]; rfl
theorem idx_le {c : Nat} (h : isG c = true) : idx c ≤ 200 := by
  have := isG_lt h
  unfold idx
  split
  · omega
  · split <;> omega
theorem pow_loop {S : Sg} {t : Mv} : ∀ (l : List Nat) (f p : Int) (o : Option Mv), (∀ c ∈ l, isG c = true) → ∃ o', mLoop (mgName 3) (mSeq (mAsg (mBin .frz gMod (mBin .frz gAdd (mVar 1) (mBin .frz gMul (mVar 2) (mIndex (mCall0 f_L_signs) (mCons (mVar 3) (mNil))))) (mC (.int 1099511627689))) (mgName 1))
    (mAsg (mBin .frz gMod (mBin .frz gMul (mVar 2) (mC (.int 131))) (mC (.int 1099511627689))) (mgName 2))) (l.map fun c => .d (.str (Q.st [c]))) [some t, some (.d (.int f)), some (.d (.int p)), o] S = .nx [some t, some (.d (.int (l.foldl pstep (f, p)).1)), some (.d (.int (l.foldl pstep (f, p)).2)), o'] S
  | [], f, p, o, _ => ⟨o, rfl⟩
  | c :: l, f, p, o, hg => by
    obtain ⟨o', e⟩ := pow_loop (t := t) (S := S) l ((f + p * idx c) % BB) (p * 131 % BB) (some (.d (.str (Q.st [c])))) (fun d hd => hg d (List.mem_cons_of_mem _ hd))
    refine ⟨o', ?_⟩
    have hi := sig_idx (hg c (List.mem_cons_self ..))
    rw [sig_st] at hi
    have hb := idx_le (hg c (List.mem_cons_self ..))
    rw [List.map_cons, Q.loop_on (ρ1 := [some t, some (.d (.int f)), some (.d (.int p)), some (.d (.str (Q.st [c])))]) rfl (ρ2 := [some t, some (.d (.int ((f + p * idx c) % BB))), some (.d (.int (p * 131 % BB))), some (.d (.str (Q.st [c])))]) (S2 := S) ?_, e]
    · rfl
    · walk_at "mm"
      rw [spec_signs]
      walk_at "mm"
      rw [Q.ind_some hi]
      walk_at "mm"
theorem spec_powers {S : Sg} {l : List Nat} (hg : ∀ c ∈ l, isG c = true) (hl : l.length ≤ 100000) : f_L_by_powers [.d (.str (Q.st l))] S = .ok (.d (.str (Q.st (dg 8 (num l 7) [])))) S := by
  have hs : l.length ≤ sizeLine := by rw [PySem.sizeLine_eq]; omega
  obtain ⟨o, e⟩ := pow_loop (S := S) (t := .d (.str (Q.st l))) l.reverse 0 1 none (fun c hc => hg c (List.mem_reverse.mp hc))
  unfold f_L_by_powers m_L_by_powers
  walk_at "mm"
  rw [e, pw_fold]
  walk_at "mm"
  rw [pw_seven, spec_thirty (num_range (by decide) (by decide)).1]
  walk_at "mm"
end Law
end
section
set_option Elab.async false
set_option maxRecDepth 100000
set_option maxHeartbeats 4000000
set_option autoImplicit false
namespace Law
open PySem PySem.Spec PyProof.Rows L2 MM
local macro_rules | `(tactic| walk_at "mm") => `(tactic| simp (disch := first | omega | assumption | exact MM.Q.shaped_int | exact MM.Q.shaped_nil | exact MM.Q.shaped_ints | exact MM.Q.shaped_bool | (refine of_eq_true (eq_true ?_); first | with_unfolding_all rfl | (simp only [MM.Q.free_d, MM.Q.free_ref, MM.Q.free_adr, MM.Q.frees_nil, MM.Q.frees_cons, MM.Q.frees_map, Bool.and_true, Bool.true_and]; done)) | (simp only [List.length_cons, List.length_nil, List.append_nil, List.map_cons, List.map_nil, List.length_append, List.length_map, MM.Q.dI_len, PySem.sizeLine_eq]; omega)) only [MM.Q.bind_ok, MM.Q.bind_exc, MM.Q.go_ok, MM.Q.go_exc, MM.Q.nox_ok, MM.Q.vr_some, MM.Q.ev_var, MM.Q.ev_c, MM.Q.ev_k, MM.Q.frzO_some, MM.Q.tupO_some, MM.Q.tupO_none, MM.Q.bear_val, MM.Q.bear_frz, MM.Q.bear_ref, MM.Q.bear_own, MM.Q.bear_tup, MM.Q.allD_nil, MM.Q.allD_cons, MM.Q.allD_map, MM.Q.bearO_some, MM.Q.ev_bin, MM.Q.ev_bin1, MM.Q.ev_bin2, MM.Q.add_int, MM.Q.sub_int, MM.Q.mul_int, MM.Q.mod_int, MM.Q.fdiv_int, MM.Q.pow_int, MM.Q.intB_int, MM.Q.datO_f, MM.Q.datO_t, MM.Q.data_d, MM.Q.data_ref, MM.Q.data_own, MM.Q.ev_eq, MM.Q.eqO_some, MM.Q.eqC_t, MM.Q.eqC_f, MM.Q.eqv_nil, MM.Q.eqv_int, MM.Q.eqv_bool, MM.Q.in_str, MM.Q.notIn_str, MM.Q.is_bool, MM.Q.isnot_bool, MM.Q.tst_bool, MM.Q.ev_tst, MM.Q.ev_truth, MM.Q.ev_tru, MM.Q.truO_some, MM.Q.truth_bool, MM.Q.truth_int, MM.Q.truth_none, MM.Q.truth_list, MM.Q.truth_tup, MM.Q.ev_andB, MM.Q.ev_orB, MM.Q.ev_notB, MM.Q.andB_t, MM.Q.andB_f, MM.Q.orB_t, MM.Q.orB_f, MM.Q.ev_notB1, MM.Q.ev_and, MM.Q.ev_or, MM.Q.and_tB, MM.Q.and_fB, MM.Q.or_tB, MM.Q.or_fB, MM.Q.ev_not, MM.Q.ev_not1, MM.Q.notO_some, MM.Q.ev_ifE, MM.Q.ifE_t, MM.Q.ifE_f, MM.Q.ev_nil, MM.Q.ev_cons, MM.Q.ev_cons1, MM.Q.ev_cons2, MM.Q.ev_disp, MM.Q.disp_lst, MM.Q.disp_tup, MM.Q.frees_nil, MM.Q.frees_cons, MM.Q.free_d, MM.Q.free_ref, MM.Q.free_adr, MM.Q.dI_snoc, MM.Q.dI_len, MM.Q.allD_dI, MM.Q.dI_nil, MM.Q.allD_dIs, MM.Q.frees_map, MM.Q.ev_cb, MM.Q.ev_cb1, MM.Q.ev_call, MM.Q.ev_call1, MM.Q.ev_call0, MM.Q.ev_callK, MM.Q.ev_callK1, MM.Q.ev_callK2, MM.Q.ldd_some, MM.Q.laid_nil, MM.Q.laid_k, MM.Q.laid_p, MM.Q.ixO_some, MM.Q.ev_ix, MM.Q.ev_ix1, MM.Q.ev_ix2, MM.Q.ix_list, MM.Q.ix_tup, MM.Q.refS_lst, MM.Q.refS_tup, MM.Q.seq_ref, MM.Q.seq_own, MM.Q.seq_list, MM.Q.seq_tup, MM.Q.ixK_some, MM.Q.ix_ref, MM.Q.ix_own, MM.Q.listO_f, MM.Q.ev_list, MM.Q.at0, MM.Q.at1, MM.Q.at2, MM.Q.at3, MM.Q.at4, MM.Q.ixN0, MM.Q.ixN1, MM.Q.ixN2, MM.Q.ev_oN, MM.Q.ev_oS, MM.Q.oS_int, MM.Q.ev_sl, MM.Q.ev_sl1, MM.Q.ev_sl2, MM.Q.ev_sl3, MM.Q.sl_lst, MM.Q.ev_rev, MM.Q.rev_list, MM.Q.ev_bm, MM.Q.ev_bm1, MM.Q.cBM_t, MM.Q.ev_bm2, MM.Q.buO_some, MM.Q.ev_bu, MM.Q.ev_bu1, MM.Q.cBU_t, MM.Q.ev_bu2, MM.Q.ty_str, MM.Q.tyO_some, MM.Q.ty_ref, MM.Q.ty_own, MM.Q.ty_list, MM.Q.beq_ll, MM.Q.beq_ss, MM.Q.celO_some, MM.Q.cell_ref, MM.Q.cell_own, MM.Q.ev_append, MM.Q.appO_some, MM.Q.ev_extend, MM.Q.extO_some, MM.Q.ev_pop, MM.Q.popO_snoc, MM.Q.ev_ind, MM.Q.ev_ind1, MM.Q.ev_neg, MM.Q.neg_int, MM.Q.ev_iter, MM.Q.ev_it, MM.Q.itO_some, MM.Q.items_list, MM.Q.items_tup, MM.Q.ev_rg1, MM.Q.rg1_int, MM.Q.ev_lc, MM.Q.ev_lc1, MM.Q.ev_lc2, MM.Q.wipe_nil, MM.Q.wipe_cons, MM.Q.ev_seq, MM.Q.seq_nx, MM.Q.seq_rt, MM.Q.seq_exc, MM.Q.seq_bk, MM.Q.seq_ct, MM.Q.ev_asg, MM.Q.ev_asg1, MM.Q.nxO_some, MM.Q.mg_name, MM.Q.mg_nil, MM.Q.mg_consN, MM.Q.mg_tup, MM.Q.ev_expr, MM.Q.ev_expr1, MM.Q.ev_ret, MM.Q.ev_ret1, MM.Q.ev_retN, MM.Q.ev_skip, MM.Q.ev_brk, MM.Q.ev_cnt, MM.Q.ev_if, MM.Q.if_t, MM.Q.if_f, MM.Q.ev_for, MM.Q.ev_for1, MM.Q.ev_fz, MM.Q.fz_own, MM.Q.fzC_some, MM.Q.fzO_some, MM.Q.fz_d, MM.Q.fz_ref, MM.Q.stO_some, MM.Q.ev_st, MM.Q.ev_st1, MM.Q.ev_st2, MM.Q.ev_st3, MM.Q.ev_setIx, MM.Q.siO_some, MM.Q.ev_par, MM.Q.ev_par1, MM.Q.nones_zero, MM.Q.nones_succ, MM.Q.begin_eq,  MM.Q.ev_fn, MM.Q.fin_rt, MM.Q.fin_ref, MM.Q.fin_nx, MM.Q.trim_same, MM.Q.trim_app, MM.Q.ev_len, MM.Q.ev_lst, MM.Q.ev_l1, MM.Q.ev_sum, MM.Q.ev_all, MM.Q.ev_any, MM.Q.ev_isi, MM.Q.kind_str, MM.Q.kind_int, MM.Q.kind_bool, MM.Q.kind_none, MM.Q.kind_dict, MM.Q.kind_list, MM.Q.kind_tup, MM.Q.kit_ss, MM.Q.kit_is, MM.Q.kit_bs, MM.Q.kit_ns, MM.Q.kit_ds, MM.Q.kit_ls, MM.Q.kit_ts, MM.Q.ev_repr, MM.Q.ev_join, MM.Q.lenO_some, MM.Q.len_list, MM.Q.len_tup, MM.Q.lnO_some, MM.Q.len_ref, MM.Q.len_own, MM.Q.lisO_some, MM.Q.l1O_some, MM.Q.ints_map, MM.Q.bools_map, MM.Q.strs_map, MM.Q.isiO_some, MM.Q.jnO_some, MM.Q.len_st, MM.Q.add_st, MM.Q.mul_st, MM.Q.ix_st, MM.Q.sl_st, MM.Q.rev_st, MM.Q.eqv_st, MM.Q.divmod_int, MM.Q.items_st, MM.Q.allD_mapf, MM.Q.strs_mapf, MM.Q.ints_mapf, MM.Q.bools_mapf, MM.Q.join_ones_some, 
  List.map_cons, List.map_nil, List.length_cons, List.length_nil, List.append_nil, List.nil_append, List.cons_append, List.getElem?_cons_zero, List.getElem?_cons_succ, List.set_cons_zero, List.set_cons_succ, Bool.and_true, Bool.true_and, Option.bind_some, Option.map_some, Nat.reduceAdd, Nat.reduceSub, Nat.add_sub_cancel, Nat.sub_self])
/-! a text -/
theorem isG_ok {c : Nat} (h : isG c = true) : c < 0x110000 := by have := isG_lt h; omega
theorem sgs_good : ∀ c ∈ sgs, isG c = true := by decide
theorem pick_loop {o1 o2 o3 o5 o6 : Option Mv} {xs : List Int} {b c : Int} {T : Sg} {js : List Mv} {s : List Nat} (hg : ∀ d ∈ s, isG d = true) (h0 : 0 < s.length) (h1 : s.length ≤ 95) (hl : xs.length ≤ 63) (hj : js.length ≤ 100000) :
    ∃ (ts : List Nat) (ys : List Int) (c' : Int), lcLoop (mgName 6) mYes (mIx (mVar 4) (mCall 2 f_L_draw [] (mCons (mVar 0) (mCons (mCB .frz gLen (mCons (mVar 4) (mNil))) (mNil))))) [some (.ref 1), o1, o2, o3, some (.d (.str (Q.st s))), o5, o6] js [] (deckS xs b c T) = .ok (ts.map fun c => .d (.str (Q.st [c]))) (deckS ys b c' T) ∧ ts.length = js.length ∧ (∀ d ∈ ts, isG d = true) ∧ ys.length ≤ 63 := by
  have h16 : sizeLine = 16777216 := PySem.sizeLine_eq
  have hs : s.length ≤ sizeLine := by omega
  obtain ⟨ys, S2, e, e1, e2, e3⟩ := @Q.lc_ex [some (.ref 1), o1, o2, o3, some (.d (.str (Q.st s))), o5, o6] (mgName 6) (mIx (mVar 4) (mCall 2 f_L_draw [] (mCons (mVar 0) (mCons (mCB .frz gLen (mCons (mVar 4) (mNil))) (mNil))))) (fun S => ∃ xs c, S = deckS xs b c T ∧ xs.length ≤ 63) (fun y => ∃ d, isG d = true ∧ y = .d (.str (Q.st [d]))) js [] (deckS xs b c T) (by
    rintro x - S ⟨xs, c, rfl, hx⟩
    obtain ⟨r, ys, c', e, a1, b1, l1⟩ := draw_spec (xs := xs) (b := b) (c := c) (k := (s.length : Int)) (T := T) (by omega) (by omega) hx
    obtain ⟨d, hd, ed⟩ := Q.atI_mem (xs := s) a1 (by omega)
    refine ⟨[some (.ref 1), o1, o2, o3, some (.d (.str (Q.st s))), o5, some x], .d (.str (Q.st [d])), deckS ys b c' T, rfl, ?_, rfl, ⟨d, hg d hd, rfl⟩, ys, c', rfl, l1⟩
    walk_at "mm"
    rw [e]
    walk_at "mm"
    rw [ed]
    walk_at "mm") ⟨xs, c, rfl, hl⟩ (by simp; omega)
  obtain ⟨zs, c', rfl, hz⟩ := e3
  obtain ⟨ts, rfl, ht⟩ := Q.pick_all e2
  exact ⟨ts, zs, c', e, by rw [← e1, List.length_map], ht, hz⟩
theorem spec_written {xs : List Int} {b c : Int} {T : Sg} (hl : xs.length ≤ 63) :
    ∃ (l : List Nat) (ys : List Int) (c' : Int), f_L_written [.ref 1] (deckS xs b c T) = .ok (.d (.str (Q.st l))) (deckS ys b c' T) ∧ (∀ d ∈ l, isG d = true) ∧ l.length ≤ 6000 ∧ ys.length ≤ 63 := by
  have h16 : sizeLine = 16777216 := PySem.sizeLine_eq
  obtain ⟨r1, x1, c1, e1, a1, b1, l1⟩ := draw_spec (xs := xs) (b := b) (c := c) (k := 5) (T := T) (by decide) (by decide) hl
  obtain ⟨r2, x2, c2, e2, a2, b2, l2⟩ := draw_spec (xs := x1) (b := b) (c := c1) (k := 12) (T := T) (by decide) (by decide) l1
  obtain ⟨r3, x3, c3, e3, a3, b3, l3⟩ := draw_spec (xs := x2) (b := b) (c := c2) (k := 60) (T := T) (by decide) (by decide) l2
  obtain ⟨r4, x4, c4, e4, a4, b4, l4⟩ := draw_spec (xs := x3) (b := b) (c := c3) (k := 401) (T := T) (by decide) (by decide) l3
  obtain ⟨r5, x5, c5, e5, a5, b5, l5⟩ := draw_spec (xs := x4) (b := b) (c := c4) (k := 4) (T := T) (by decide) (by decide) l4
  obtain ⟨r6, x6, c6, e6, a6, b6, l6⟩ := draw_spec (xs := x5) (b := b) (c := c5) (k := 4) (T := T) (by decide) (by decide) l5
  obtain ⟨r7, x7, c7, e7, a7, b7, l7⟩ := draw_spec (xs := x6) (b := b) (c := c6) (k := 95) (T := T) (by decide) (by decide) l6
  have f1 : ∃ n : Int, atI (List.map Mv.d [PyData.int 0, .int 1, .int 399, .int 400]) r5 = some (.d (.int n)) ∧ 0 ≤ n ∧ n ≤ 400 := by
    obtain ⟨y, hy, e⟩ := Q.atI_mem (xs := List.map Mv.d [PyData.int 0, .int 1, .int 399, .int 400]) a5 (by simpa using b5)
    simp only [List.map_cons, List.map_nil, List.mem_cons, List.not_mem_nil, or_false] at hy
    rcases hy with rfl | rfl | rfl | rfl <;> exact ⟨_, e, by decide, by decide⟩
  obtain ⟨n1, f1, g1, k1⟩ := f1
  have f2 : ∃ n : Int, atI (List.map Mv.d [PyData.int r2, .int r3, .int r4, .int n1]) r6 = some (.d (.int n)) ∧ 0 ≤ n ∧ n ≤ 400 := by
    obtain ⟨y, hy, e⟩ := Q.atI_mem (xs := List.map Mv.d [PyData.int r2, .int r3, .int r4, .int n1]) a6 (by simpa using b6)
    simp only [List.map_cons, List.map_nil, List.mem_cons, List.not_mem_nil, or_false] at hy
    rcases hy with rfl | rfl | rfl | rfl <;> exact ⟨_, e, by omega, by omega⟩
  obtain ⟨n2, f2, g2, k2⟩ := f2
  obtain ⟨d7, q7, p7, _⟩ := sig_at a7 b7
  rw [sig_st, Q.cs_st] at q7
  have f3 : ∃ l : List Nat, atI (List.map Mv.d [PyData.str (Q.st sgs), .str (Str.ofString "ab\n"), .str (Q.st [d7]), .str (Str.ofString "#0az-;"), .str (Str.ofString "\n\\ ~")]) r1 = some (.d (.str (Q.st l))) ∧ (∀ d ∈ l, isG d = true) ∧ 0 < l.length ∧ l.length ≤ 95 := by
    obtain ⟨y, hy, e⟩ := Q.atI_mem (xs := List.map Mv.d [PyData.str (Q.st sgs), .str (Str.ofString "ab\n"), .str (Q.st [d7]), .str (Str.ofString "#0az-;"), .str (Str.ofString "\n\\ ~")]) a1 (by simpa using b1)
    simp only [List.map_cons, List.map_nil, List.mem_cons, List.not_mem_nil, or_false] at hy
    rcases hy with rfl | rfl | rfl | rfl | rfl
    · exact ⟨_, e, sgs_good, by decide, by decide⟩
    · exact ⟨[97, 98, 10], by rw [e, show Str.ofString "ab\n" = Q.st [97, 98, 10] from by decide +kernel], by decide, by decide, by decide⟩
    · exact ⟨_, e, by simpa using p7, by simp, by simp⟩
    · exact ⟨[35, 48, 97, 122, 45, 59], by rw [e, show Str.ofString "#0az-;" = Q.st [35, 48, 97, 122, 45, 59] from by decide +kernel], by decide, by decide, by decide⟩
    · exact ⟨[10, 92, 32, 126], by rw [e, show Str.ofString "\n\\ ~" = Q.st [10, 92, 32, 126] from by decide +kernel], by decide, by decide, by decide⟩
  obtain ⟨s, f3, g3, z3, k3⟩ := f3
  simp only [List.map_cons, List.map_nil] at f1 f2 f3
  obtain ⟨ts, x8, c8, e8, w8, g8, l8⟩ := pick_loop (o1 := some (.d (.int r1))) (o2 := some (.d (.int n2))) (o3 := some (.d (.str (Q.st sgs)))) (o5 := none) (o6 := none) (xs := x7) (b := b) (c := c7) (T := T) (js := rangeL 0 n2.toNat) (s := s) g3 z3 k3 l7 (by simp [rangeL]; omega)
  obtain ⟨r9, x9, c9, e9, a9, b9, l9⟩ := draw_spec (xs := x8) (b := b) (c := c8) (k := 8) (T := T) (by decide) (by decide) l8
  have hs95 : sgs.length ≤ sizeLine := by rw [sgs_len, h16]; omega
  have hts : ts.length ≤ 400 := by rw [w8]; simp [rangeL]; omega
  refine ⟨if r9 = 5 then Q.cutL (List.replicate 6000 (ts ++ [97])).flatten none (some 5990) else ts, x9, c9, ?_, ?_, ?_, l9⟩
  · unfold f_L_written m_L_written
    walk_at "mm"
    rw [e1]
    walk_at "mm"
    rw [e2]
    walk_at "mm"
    rw [e3]
    walk_at "mm"
    rw [e4]
    walk_at "mm"
    rw [e5]
    walk_at "mm"
    rw [f1]
    walk_at "mm"
    rw [e6]
    walk_at "mm"
    rw [f2]
    walk_at "mm"
    rw [spec_signs]
    walk_at "mm"
    rw [sgs_len, show ((95 : Nat) : Int) = 95 from rfl, e7]
    walk_at "mm"
    rw [q7]
    walk_at "mm"
    rw [f3]
    walk_at "mm"
    rw [e8]
    walk_at "mm"
    rw [lit_e]
    walk_at "mm"
    rw [e9]
    walk_at "mm"
    by_cases h5 : r9 = 5
    · simp only [h5, Q.eqv_int, beq_self_eq_true, if_true]
      rw [show Str.ofString "a" = Q.st [97] from by decide +kernel]
      walk_at "mm"
      have hf : (List.replicate 6000 (ts ++ [97])).flatten.length ≤ sizeLine := by rw [Q.rep_len, List.length_append, List.length_singleton]; omega
      rw [Q.mul_st ⟨by omega, by omega, by rw [List.length_append, List.length_singleton, show Int.toNat 6000 = 6000 from rfl]; omega⟩, show Int.toNat 6000 = 6000 from rfl]
      walk_at "mm"
    · simp only [h5, Q.eqv_int, beq_eq_false_iff_ne.mpr h5, if_false]
      walk_at "mm"
  · split
    · intro d hd
      have h1 := Q.cutL_mem hd
      simp only [List.mem_flatten, List.mem_replicate] at h1
      obtain ⟨l, ⟨_, rfl⟩, h1⟩ := h1
      rcases List.mem_append.mp h1 with h1 | h1
      · exact g8 d h1
      · rw [List.mem_singleton.mp h1]; decide
    · exact g8
  · split
    · rw [show (5990 : Int) = ((5990 : Nat) : Int) from rfl, Q.cutL_to, List.length_take]
      omega
    · omega
end Law
end
section
set_option Elab.async false
set_option maxRecDepth 100000
set_option maxHeartbeats 4000000
set_option autoImplicit false
namespace Law
open PySem PySem.Spec PyProof.Rows L2 MM
local macro_rules | `(tactic| walk_at "mm") => `(tactic| simp (disch := first | omega | assumption | exact MM.Q.shaped_int | exact MM.Q.shaped_nil | exact MM.Q.shaped_ints | exact MM.Q.shaped_bool | (refine of_eq_true (eq_true ?_); first | with_unfolding_all rfl | (simp only [MM.Q.free_d, MM.Q.free_ref, MM.Q.free_adr, MM.Q.frees_nil, MM.Q.frees_cons, MM.Q.frees_map, Bool.and_true, Bool.true_and]; done)) | (simp only [List.length_cons, List.length_nil, List.append_nil, List.map_cons, List.map_nil, List.length_append, List.length_map, List.length_reverse, MM.Q.dI_len, PySem.sizeLine_eq]; omega)) only [MM.Q.bind_ok, MM.Q.bind_exc, MM.Q.go_ok, MM.Q.go_exc, MM.Q.nox_ok, MM.Q.vr_some, MM.Q.ev_var, MM.Q.ev_c, MM.Q.ev_k, MM.Q.frzO_some, MM.Q.tupO_some, MM.Q.tupO_none, MM.Q.bear_val, MM.Q.bear_frz, MM.Q.bear_ref, MM.Q.bear_own, MM.Q.bear_tup, MM.Q.allD_nil, MM.Q.allD_cons, MM.Q.allD_map, MM.Q.bearO_some, MM.Q.ev_bin, MM.Q.ev_bin1, MM.Q.ev_bin2, MM.Q.add_int, MM.Q.sub_int, MM.Q.mul_int, MM.Q.mod_int, MM.Q.fdiv_int, MM.Q.pow_int, MM.Q.intB_int, MM.Q.datO_f, MM.Q.datO_t, MM.Q.data_d, MM.Q.data_ref, MM.Q.data_own, MM.Q.ev_eq, MM.Q.eqO_some, MM.Q.eqC_t, MM.Q.eqC_f, MM.Q.eqv_nil, MM.Q.eqv_int, MM.Q.eqv_bool, MM.Q.in_str, MM.Q.notIn_str, MM.Q.is_bool, MM.Q.isnot_bool, MM.Q.tst_bool, MM.Q.ev_tst, MM.Q.ev_truth, MM.Q.ev_tru, MM.Q.truO_some, MM.Q.truth_bool, MM.Q.truth_int, MM.Q.truth_none, MM.Q.truth_list, MM.Q.truth_tup, MM.Q.ev_andB, MM.Q.ev_orB, MM.Q.ev_notB, MM.Q.andB_t, MM.Q.andB_f, MM.Q.orB_t, MM.Q.orB_f, MM.Q.ev_notB1, MM.Q.ev_and, MM.Q.ev_or, MM.Q.and_tB, MM.Q.and_fB, MM.Q.or_tB, MM.Q.or_fB, MM.Q.ev_not, MM.Q.ev_not1, MM.Q.notO_some, MM.Q.ev_ifE, MM.Q.ifE_t, MM.Q.ifE_f, MM.Q.ev_nil, MM.Q.ev_cons, MM.Q.ev_cons1, MM.Q.ev_cons2, MM.Q.ev_disp, MM.Q.disp_lst, MM.Q.disp_tup, MM.Q.frees_nil, MM.Q.frees_cons, MM.Q.free_d, MM.Q.free_ref, MM.Q.free_adr, MM.Q.dI_snoc, MM.Q.dI_len, MM.Q.allD_dI, MM.Q.dI_nil, MM.Q.allD_dIs, MM.Q.frees_map, MM.Q.ev_cb, MM.Q.ev_cb1, MM.Q.ev_call, MM.Q.ev_call1, MM.Q.ev_call0, MM.Q.ev_callK, MM.Q.ev_callK1, MM.Q.ev_callK2, MM.Q.ldd_some, MM.Q.laid_nil, MM.Q.laid_k, MM.Q.laid_p, MM.Q.ixO_some, MM.Q.ev_ix, MM.Q.ev_ix1, MM.Q.ev_ix2, MM.Q.ix_list, MM.Q.ix_tup, MM.Q.refS_lst, MM.Q.refS_tup, MM.Q.seq_ref, MM.Q.seq_own, MM.Q.seq_list, MM.Q.seq_tup, MM.Q.ixK_some, MM.Q.ix_ref, MM.Q.ix_own, MM.Q.listO_f, MM.Q.ev_list, MM.Q.at0, MM.Q.at1, MM.Q.at2, MM.Q.at3, MM.Q.at4, MM.Q.ixN0, MM.Q.ixN1, MM.Q.ixN2, MM.Q.ev_oN, MM.Q.ev_oS, MM.Q.oS_int, MM.Q.ev_sl, MM.Q.ev_sl1, MM.Q.ev_sl2, MM.Q.ev_sl3, MM.Q.ev_rev, MM.Q.rev_list, MM.Q.ev_bm, MM.Q.ev_bm1, MM.Q.cBM_t, MM.Q.ev_bm2, MM.Q.buO_some, MM.Q.ev_bu, MM.Q.ev_bu1, MM.Q.cBU_t, MM.Q.ev_bu2, MM.Q.ty_str, MM.Q.tyO_some, MM.Q.ty_ref, MM.Q.ty_own, MM.Q.ty_list, MM.Q.beq_ll, MM.Q.beq_ss, MM.Q.celO_some, MM.Q.cell_ref, MM.Q.cell_own, MM.Q.ev_append, MM.Q.appO_some, MM.Q.ev_extend, MM.Q.extO_some, MM.Q.ev_pop, MM.Q.popO_snoc, MM.Q.ev_ind, MM.Q.ev_ind1, MM.Q.ev_neg, MM.Q.neg_int, MM.Q.ev_iter, MM.Q.ev_it, MM.Q.itO_some, MM.Q.items_list, MM.Q.items_tup, MM.Q.ev_rg1, MM.Q.rg1_int, MM.Q.ev_lc, MM.Q.ev_lc1, MM.Q.ev_lc2, MM.Q.wipe_nil, MM.Q.wipe_cons, MM.Q.ev_seq, MM.Q.seq_nx, MM.Q.seq_rt, MM.Q.seq_exc, MM.Q.seq_bk, MM.Q.seq_ct, MM.Q.ev_asg, MM.Q.ev_asg1, MM.Q.nxO_some, MM.Q.mg_name, MM.Q.mg_nil, MM.Q.mg_consN, MM.Q.mg_tup, MM.Q.ev_expr, MM.Q.ev_expr1, MM.Q.ev_ret, MM.Q.ev_ret1, MM.Q.ev_retN, MM.Q.ev_skip, MM.Q.ev_brk, MM.Q.ev_cnt, MM.Q.ev_if, MM.Q.if_t, MM.Q.if_f, MM.Q.ev_for, MM.Q.ev_for1, MM.Q.ev_fz, MM.Q.fz_own, MM.Q.fzC_some, MM.Q.fzO_some, MM.Q.fz_d, MM.Q.fz_ref, MM.Q.stO_some, MM.Q.ev_st, MM.Q.ev_st1, MM.Q.ev_st2, MM.Q.ev_st3, MM.Q.ev_setIx, MM.Q.siO_some, MM.Q.ev_par, MM.Q.ev_par1, MM.Q.nones_zero, MM.Q.nones_succ, MM.Q.begin_eq, deckS_get2, deckS_set2,  MM.Q.ev_fn, MM.Q.fin_rt, MM.Q.fin_ref, MM.Q.fin_nx, MM.Q.trim_same, MM.Q.trim_app, MM.Q.ev_len, MM.Q.ev_lst, MM.Q.ev_l1, MM.Q.ev_sum, MM.Q.ev_all, MM.Q.ev_any, MM.Q.ev_isi, MM.Q.kind_str, MM.Q.kind_int, MM.Q.kind_bool, MM.Q.kind_none, MM.Q.kind_dict, MM.Q.kind_list, MM.Q.kind_tup, MM.Q.kit_ss, MM.Q.kit_is, MM.Q.kit_bs, MM.Q.kit_ns, MM.Q.kit_ds, MM.Q.kit_ls, MM.Q.kit_ts, MM.Q.ev_repr, MM.Q.ev_join, MM.Q.lenO_some, MM.Q.len_list, MM.Q.len_tup, MM.Q.lnO_some, MM.Q.len_ref, MM.Q.len_own, MM.Q.lisO_some, MM.Q.l1O_some, MM.Q.ints_map, MM.Q.bools_map, MM.Q.strs_map, MM.Q.isiO_some, MM.Q.jnO_some, MM.Q.len_st, MM.Q.add_st, MM.Q.mul_st, MM.Q.ix_st, MM.Q.sl_st, MM.Q.rev_st, MM.Q.eqv_st, MM.Q.divmod_int, MM.Q.items_st, MM.Q.allD_mapf, MM.Q.strs_mapf, MM.Q.ints_mapf, MM.Q.bools_mapf, MM.Q.join_ones_some, MM.Q.sl_own, MM.Q.sl_ref, MM.Q.sl_list, MM.Q.slO_some, MM.Q.add_own, MM.Q.add_ref, MM.Q.add_list, MM.Q.catO_some, MM.Q.cutL_map, 
  List.map_cons, List.map_nil, List.length_cons, List.length_nil, List.append_nil, List.nil_append, List.cons_append, List.getElem?_cons_zero, List.getElem?_cons_succ, List.set_cons_zero, List.set_cons_succ, Bool.and_true, Bool.true_and, Option.bind_some, Option.map_some, Nat.reduceAdd, Nat.reduceSub, Nat.add_sub_cancel, Nat.sub_self])
/-! one text held against the other -/
theorem dg_fgs {n : Int} : ∀ c ∈ dg 8 n [], c ∈ fgs := dg_mem 8 n [] fun _ h => (nomatch h)
theorem dg_len8 {n : Int} : (dg 8 n []).length = 8 := dg_len 8 n []
theorem dg_worth {n : Int} (h : 0 ≤ n) (h2 : n < BB) : wth (dg 8 n []) 0 = n := wth_dg 8 n [] h (by show n < 1099511627776; have : n < 1099511627689 := h2; omega)
theorem spec_right {xs : List Int} {b c : Int} {T : Sg} {l : List Nat} (hl : xs.length ≤ 63) (hg : ∀ d ∈ l, isG d = true) (hz : l.length ≤ 50000) :
    ∃ (ys : List Int) (c' : Int), f_L_right [.ref 1, .d (.str (Q.st l))] (deckS xs b c T) = .ok (.d (.bool true)) (deckS ys b c' T) ∧ ys.length ≤ 63 := by
  have h16 : sizeLine = 16777216 := PySem.sizeLine_eq
  obtain ⟨r1, x1, c1, e1, a1, b1, l1⟩ := draw_spec (xs := xs) (b := b) (c := c) (k := 95) (T := T) (by decide) (by decide) hl
  obtain ⟨d, q, hd, hi⟩ := sig_at a1 b1
  rw [sig_st, Q.cs_st] at q
  have hg2 : ∀ e ∈ l ++ [d], isG e = true := fun e he => by
    rcases List.mem_append.mp he with h | h
    · exact hg e h
    · rw [List.mem_singleton.mp h]; exact hd
  have hs95 : sgs.length ≤ sizeLine := by rw [sgs_len, h16]; omega
  have hs : (dg 8 (num l 7) []).length ≤ sizeLine := by rw [dg_len8, h16]; omega
  have k1 : SeqAt.shaped (.str (Q.st (dg 8 (num l 7) []))) = true := Q.ok_st fun c hc => fgs_lt (dg_fgs c hc)
  have n1 := num_range (l := l) (s := 7) (by decide) (by decide)
  have n2 := num_range (l := l ++ [d]) (s := 7) (by decide) (by decide)
  refine ⟨x1, c1, ?_, l1⟩
  unfold f_L_right m_L_right
  walk_at "mm"
  rw [spec_mark hg]
  walk_at "mm"
  rw [spec_powers hg (by omega)]
  walk_at "mm"
  simp only [decide_true, Bool.not_true]
  walk_at "mm"
  rw [spec_mark hg]
  walk_at "mm"
  simp only [decide_true, Bool.not_true]
  walk_at "mm"
  rw [spec_is_mark dg_len8 dg_fgs]
  walk_at "mm"
  simp only [decide_true, Bool.not_true]
  walk_at "mm"
  rw [dg_len8, show ((8 : Nat) : Int) = 8 from rfl]
  simp only [Q.eqv_int, beq_self_eq_true, Bool.not_true]
  walk_at "mm"
  rw [spec_signs]
  walk_at "mm"
  rw [sgs_len, show ((95 : Nat) : Int) = 95 from rfl, e1]
  walk_at "mm"
  rw [spec_signs]
  walk_at "mm"
  rw [q]
  walk_at "mm"
  rw [spec_mark hg2]
  walk_at "mm"
  rw [spec_worth dg_fgs, dg_worth n2.1 n2.2]
  walk_at "mm"
  rw [spec_worth dg_fgs, dg_worth n1.1 n1.2]
  walk_at "mm"
  rw [← hi, show num (l ++ [d]) 7 = (131 * num l 7 + idx d) % BB from by unfold num; rw [List.foldl_append]; rfl]
  simp

abbrev mS (l : List Nat) : Mv := .d (.str (Q.st l))
def Gd (l : List Nat) : Prop := (∀ d ∈ l, isG d = true) ∧ l.length ≤ 30000
theorem gd_cut {l : List Nat} {lo hi : Option Int} (h : ∀ d ∈ l, isG d = true) : ∀ d ∈ Q.cutL l lo hi, isG d = true := fun d hd => h d (Q.cutL_mem hd)
theorem gd_app {a b : List Nat} (h : ∀ d ∈ a, isG d = true) (h2 : ∀ d ∈ b, isG d = true) : ∀ d ∈ a ++ b, isG d = true := fun d hd => (List.mem_append.mp hd).elim (h d) (h2 d)
theorem turn {L : List (List Nat)} {xs : List Int} {b c : Int} {s : Mv} {o3 o4 o5 o6 o7 : Option Mv} (hl : xs.length ≤ 63) (hL : L.length ≤ 1000) :
    ∃ (L4 : List (List Nat)) (ys : List Int) (c' : Int) (p4 p5 p6 : Option Mv), (mSeq (mAsg (mCall 1 f_L_written [] (mCons (mVar 1) mNil)) (mgName 4))
              (mSeq
                (mAsg
                  (mCall 2 f_L_draw []
                    (mCons (mVar 1)
                      (mCons (mBin Bi.frz gAdd (mCB Bi.frz gLen (mCons (mVar 4) mNil)) (mC (PyData.int 1))) mNil)))
                  (mgName 5))
                (mSeq
                  (mAsg
                    (mIx (mCall0 f_L_signs)
                      (mCall 2 f_L_draw []
                        (mCons (mVar 1) (mCons (mCB Bi.frz gLen (mCons (mCall0 f_L_signs) mNil)) mNil))))
                    (mgName 6))
                  (mSeq
                    (mExpr
                      (mBU "list" uExtend (mVar 2)
                        (mCons
                          (mDisp Bi.frz false
                            (mCons (mVar 4)
                              (mCons
                                (mBin Bi.frz gAdd (mSl Bi.frz (mVar 4) mON (mOS (mVar 5)))
                                  (mSl Bi.frz (mVar 4) (mOS (mBin Bi.frz gAdd (mVar 5) (mC (PyData.int 1)))) mON))
                                (mCons
                                  (mBin Bi.frz gAdd (mBin Bi.frz gAdd (mSl Bi.frz (mVar 4) mON (mOS (mVar 5))) (mVar 6))
                                    (mSl Bi.frz (mVar 4) (mOS (mBin Bi.frz gAdd (mVar 5) (mC (PyData.int 1)))) mON))
                                  mNil))))
                          mNil)))
                    (mExpr
                      (mBU "list" uAppend (mVar 2)
                        (mCons
                          (mBin Bi.frz gAdd
                            (mBin Bi.frz gAdd (mSl Bi.frz (mVar 4) mON (mOS (mVar 5)))
                              (mRev Bi.frz
                                (mSl Bi.frz (mVar 4) (mOS (mVar 5))
                                  (mOS (mBin Bi.frz gAdd (mVar 5) (mC (PyData.int 2)))))))
                            (mSl Bi.frz (mVar 4) (mOS (mBin Bi.frz gAdd (mVar 5) (mC (PyData.int 2)))) mON))
                          mNil))))))) [some s, some (.ref 1), some (.own 2), o3, o4, o5, o6, o7] (deckS xs b c [(true, .lst (L.map mS))]) = .nx [some s, some (.ref 1), some (.own 2), o3, p4, p5, p6, o7] (deckS ys b c' [(true, .lst ((L ++ L4).map mS))]) ∧ L4.length = 4 ∧ (∀ l ∈ L4, Gd l) ∧ ys.length ≤ 63 := by
  have h16 : sizeLine = 16777216 := PySem.sizeLine_eq
  obtain ⟨l, x1, c1, e1, g1, z1, l1⟩ := spec_written (xs := xs) (b := b) (c := c) (T := [(true, .lst (L.map mS))]) hl
  obtain ⟨r, x2, c2, e2, a2, b2, l2⟩ := draw_spec (xs := x1) (b := b) (c := c1) (k := l.length + 1) (T := [(true, .lst (L.map mS))]) (by omega) (by omega) l1
  obtain ⟨r3, x3, c3, e3, a3, b3, l3⟩ := draw_spec (xs := x2) (b := b) (c := c2) (k := 95) (T := [(true, .lst (L.map mS))]) (by omega) (by omega) l2
  obtain ⟨d, q, hd, _⟩ := sig_at a3 b3
  rw [sig_st, Q.cs_st] at q
  have hs95 : sgs.length ≤ sizeLine := by rw [sgs_len, h16]; omega
  have k1 : ∀ lo hi : Option Int, (Q.cutL l lo hi).length ≤ 6000 := fun lo hi => Nat.le_trans Q.cutL_len z1
  have t1 := k1 none (some r)
  have t2 := k1 (some (r + 1)) none
  have t3 := k1 (some r) (some (r + 2))
  have t4 := k1 (some (r + 2)) none
  refine ⟨[l, Q.cutL l none (some r) ++ Q.cutL l (some (r + 1)) none, Q.cutL l none (some r) ++ [d] ++ Q.cutL l (some (r + 1)) none, Q.cutL l none (some r) ++ (Q.cutL l (some r) (some (r + 2))).reverse ++ Q.cutL l (some (r + 2)) none], x3, c3, some (mS l), some (.d (.int r)), some (mS [d]), ?_, rfl, ?_, l3⟩
  · walk_at "mm"
    rw [e1]
    walk_at "mm"
    rw [e2]
    walk_at "mm"
    rw [spec_signs]
    walk_at "mm"
    rw [spec_signs]
    walk_at "mm"
    rw [sgs_len, show ((95 : Nat) : Int) = 95 from rfl, e3]
    walk_at "mm"
    rw [q]
    walk_at "mm"
    simp only [List.map_append, List.map_cons, List.map_nil, List.append_assoc, List.cons_append, List.nil_append]
  · intro m hm
    simp only [List.mem_cons, List.not_mem_nil, or_false] at hm
    rcases hm with rfl | rfl | rfl | rfl
    · exact ⟨g1, by omega⟩
    · exact ⟨gd_app (gd_cut g1) (gd_cut g1), by rw [List.length_append]; omega⟩
    · exact ⟨gd_app (gd_app (gd_cut g1) (by simpa using hd)) (gd_cut g1), by simp only [List.length_append, List.length_singleton]; omega⟩
    · exact ⟨gd_app (gd_app (gd_cut g1) fun e he => gd_cut g1 e (List.mem_reverse.mp he)) (gd_cut g1), by simp only [List.length_append, List.length_reverse]; omega⟩
/-! the law -/
theorem law_good : ∀ ns : List Int, ns.length ≤ 63 → ∃ S', f_law [.d (.list (ns.map PyData.int))] [] = .ok (.d (.bool true)) S' := by
  intro ns hn
  have h16 : sizeLine = 16777216 := PySem.sizeLine_eq
  obtain ⟨xs, b, e, hx⟩ := deck_spec hn
  unfold f_law m_law
  walk_at "mm"
  rw [e]
  walk_at "mm"
  have er : (PyData.tuple [.int 2, .int 400, .int 7]).shown = Q.st [40, 50, 44, 32, 52, 48, 48, 44, 32, 55, 41] := by decide +kernel
  rw [Q.repO_some (by decide +kernel) (by decide +kernel) (by rw [er, h16]; decide), er, show Str.ofString "(2, 400, 7)" = Q.st [40, 50, 44, 32, 52, 48, 48, 44, 32, 55, 41] from by decide +kernel]
  have k1 : SeqAt.shaped (.str (Q.st [40, 50, 44, 32, 52, 48, 48, 44, 32, 55, 41])) = true := Q.ok_st (by decide)
  walk_at "mm"
  simp only [decide_true, Bool.not_true]
  walk_at "mm"
  rw [lit_e, spec_mark (l := []) (fun _ h => (nomatch h)), show dg 8 (num [] 7) [] = [48, 48, 48, 48, 48, 48, 48, 55] from by decide, show Str.ofString "00000007" = Q.st [48, 48, 48, 48, 48, 48, 48, 55] from by decide +kernel]
  have k2 : SeqAt.shaped (.str (Q.st [48, 48, 48, 48, 48, 48, 48, 55])) = true := Q.ok_st (by decide)
  walk_at "mm"
  simp only [decide_true, Bool.not_true]
  walk_at "mm"
  generalize hs : Mv.d (PyData.list (List.map PyData.int ns)) = s
  clear hs e er k1 k2
  rw [show deckS xs b 0 [] ++ [(true, Mo.lst [])] = deckS xs b 0 [(true, .lst (([] : List (List Nat)).map mS))] from rfl, show List.length (deckS xs b 0 []) = 2 from rfl]
  obtain ⟨ρ2, S2, e1, L, ys, c', o3, o4, o5, o6, rfl, rfl, hL, hG, hy⟩ := Q.loop_exN (ρ := []) (S := []) (N := 6) (g := mgName 3) (P := fun i ρ S => ∃ (L : List (List Nat)) (ys : List Int) (c' : Int) (o3 o4 o5 o6 : Option Mv), ρ = [some s, some (.ref 1), some (.own 2), o3, o4, o5, o6, none] ∧ S = deckS ys b c' [(true, .lst (L.map mS))] ∧ L.length = 4 * i ∧ (∀ l ∈ L, Gd l) ∧ ys.length ≤ 63) (xs := rangeL 0 (Int.toNat 6)) (i := 0)
    (by
      rintro x - i hi ρ S ⟨L, ys, c', o3, o4, o5, o6, rfl, rfl, hL, hG, hy⟩
      obtain ⟨L4, zs, c2, p4, p5, p6, e, h4, hG4, hz⟩ := turn (L := L) (xs := ys) (b := b) (c := c') (s := s) (o3 := some x) (o4 := o4) (o5 := o5) (o6 := o6) (o7 := none) hy (by omega)
      exact ⟨_, _, _, rfl, e, L ++ L4, zs, c2, _, _, _, _, rfl, rfl, by rw [List.length_append]; omega, fun l h => (List.mem_append.mp h).elim (hG l) (hG4 l), hz⟩)
    ⟨[], xs, 0, none, none, none, none, rfl, rfl, rfl, fun _ h => (nomatch h), hx⟩ (by decide)
  rw [e1]
  walk_at "mm"
  have hL2 : L.length = 24 := hL
  have hM : (Q.cutL L none (some 2)).length ≤ 24 := Nat.le_trans Q.cutL_len (by omega)
  have hall : ∀ l ∈ L ++ Q.cutL L none (some 2), Gd l := fun l h => (List.mem_append.mp h).elim (hG l) fun h => hG l (Q.cutL_mem h)
  rw [show List.map Mv.d (List.map (fun a => PyData.str (Q.st a)) (Q.cutL L none (some 2))) = (Q.cutL L none (some 2)).map mS from by rw [List.map_map]; rfl, Q.catO_some (by rw [List.length_map, List.length_map]; omega), ← List.map_append]
  generalize L ++ Q.cutL L none (some 2) = A at hall
  walk_at "mm"
  rw [show List.map Mv.d (List.map (fun a => PyData.str (Q.st a)) A) = A.map mS from by rw [List.map_map]; rfl]
  obtain ⟨ρ3, S3, e3, o7, xs3, c3, rfl, rfl, h3⟩ := Q.loop_ex (g := mgName 7) (b := mIfS (mNotB (mTruth (mCall 2 f_L_right [] (mCons (mVar 1) (mCons (mVar 7) mNil))))) (mRet (mC (PyData.bool false))) mSkip) (P := fun ρ S => ∃ (o7 : Option Mv) (ys : List Int) (c' : Int), ρ = [some s, some (.ref 1), some (.own 2), o3, o4, o5, o6, o7] ∧ S = deckS ys b c' [(true, .lst (L.map mS))] ∧ ys.length ≤ 63) (xs := A.map mS)
    (by
      rintro x hx ρ S ⟨o7, ys, c', rfl, rfl, hy⟩
      obtain ⟨l, hl, rfl⟩ := List.mem_map.mp hx
      obtain ⟨zs, c2, e, hz⟩ := spec_right (xs := ys) (b := b) (c := c') (T := [(true, .lst (L.map mS))]) (l := l) hy (hall l hl).1 (by have := (hall l hl).2; omega)
      refine ⟨_, _, _, rfl, ?_, some (mS l), zs, c2, rfl, rfl, hz⟩
      walk_at "mm"
      rw [e]
      walk_at "mm"
      simp only [Bool.not_true]
      walk_at "mm") ⟨none, ys, c', rfl, rfl, hy⟩
  rw [e3]
  walk_at "mm"
  exact ⟨_, rfl⟩
end Law
end
section
open PySem PySem.W PyProof.Rows
set_option maxHeartbeats 0 in
theorem PySem.Challenge.cw_madestore_k01_marks_of_texts_holds : PySem.Challenge.rw_madestore_k01_marks_of_texts.Holds := by
  w_on; o_law; k_head; (case hw => w_witness2)
  k_fill
  refine MM.walk_end (l := PySem.Challenge.rw_madestore_k01_marks_of_texts) (n := 63) (k := 4) (x := "_law_script") rfl (by decide) rfl ⟨rfl, by decide, by decide⟩ (fun w h Y => PySem.W.kIn_of Y) ?F
  case F =>
    intro w mg fa h KX G hmg
    obtain ⟨fd, m, h1, h2, h3⟩ := by
      refine' Law.all_mk (l := PySem.Challenge.rw_madestore_k01_marks_of_texts) (w := w) KX G hmg ?h_HANDS ?h_MOST ?h_FIRST ?h_SIGNS ?h_FIGURES ?h_LONG ?h_STEP ?h_BOUND ?h_all ?h_divmod ?h_isinstance ?h_len ?h_list ?h_range ?h_repr ?h_str ?h_sum ?g_is_mark ?l_is_mark ?c_is_mark ?p_is_mark ?g_mark_of ?l_mark_of ?c_mark_of ?p_mark_of ?g_L_deck ?l_L_deck ?c_L_deck ?p_L_deck ?g_L_draw ?l_L_draw ?c_L_draw ?p_L_draw ?g_L_signs ?l_L_signs ?c_L_signs ?p_L_signs ?g_L_thirty_two ?l_L_thirty_two ?c_L_thirty_two ?p_L_thirty_two ?g_L_worth ?l_L_worth ?c_L_worth ?p_L_worth ?g_L_written ?l_L_written ?c_L_written ?p_L_written ?g_L_by_powers ?l_L_by_powers ?c_L_by_powers ?p_L_by_powers ?g_L_right ?l_L_right ?c_L_right ?p_L_right ?g_law ?l_law ?c_law ?p_law
      (case h_HANDS => k_is); (case h_MOST => k_is); (case h_FIRST => k_is); (case h_SIGNS => k_is); (case h_FIGURES => k_is); (case h_LONG => k_is); (case h_STEP => k_is); (case h_BOUND => k_is); (case h_all => k_is); (case h_divmod => k_is); (case h_isinstance => k_is); (case h_len => k_is); (case h_list => k_is); (case h_range => k_is); (case h_repr => k_is); (case h_str => k_is); (case h_sum => k_is); (case g_is_mark => k_is); (case l_is_mark => k_is); (case c_is_mark => k_is); (case p_is_mark => k_is); (case g_mark_of => k_is); (case l_mark_of => k_is); (case c_mark_of => k_is); (case p_mark_of => k_is); (case g_L_deck => k_is); (case l_L_deck => k_is); (case c_L_deck => k_is); (case p_L_deck => k_is); (case g_L_draw => k_is); (case l_L_draw => k_is); (case c_L_draw => k_is); (case p_L_draw => k_is); (case g_L_signs => k_is); (case l_L_signs => k_is); (case c_L_signs => k_is); (case p_L_signs => k_is); (case g_L_thirty_two => k_is); (case l_L_thirty_two => k_is); (case c_L_thirty_two => k_is); (case p_L_thirty_two => k_is); (case g_L_worth => k_is); (case l_L_worth => k_is); (case c_L_worth => k_is); (case p_L_worth => k_is); (case g_L_written => k_is); (case l_L_written => k_is); (case c_L_written => k_is); (case p_L_written => k_is); (case g_L_by_powers => k_is); (case l_L_by_powers => k_is); (case c_L_by_powers => k_is); (case p_L_by_powers => k_is); (case g_L_right => k_is); (case l_L_right => k_is); (case c_L_right => k_is); (case p_L_right => k_is); (case g_law => k_is); (case l_law => k_is); (case c_law => k_is); (case p_law => k_is)
    exact ⟨fd, m, h1, h2, fun ns hn => by rw [h3]; exact Law.law_good ns hn⟩
end
