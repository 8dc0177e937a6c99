import PyProof.Rows.All
import Wide.All
import OpenK.AllK
import Wide.FinOn
import HandS.ForMost
import HandS.ForExc
import HandS.Flow
import HandS.Style
import HandS.StrMore
import HandS.IsInst
import HandS.CallSlots
import HandS.TupLe
import HandS.FStr
import HandS.Small
import HandS.TryOnly
import HandS.Deep
import HandS.Wide
import HandS.TupAny
import HandS.TupMul
import KE.KRevSl
import HandS.Codes
import PySem.Challenge.RW_madestore_k02_things_labels_marks_names
section
set_option Elab.async false
set_option linter.all false
set_option maxRecDepth 100000
set_option maxHeartbeats 4000000
set_option autoImplicit false
/-! MM: a functional reading over the hand layer: values are data, mutable things are cells of a store. -/
namespace MM
open PySem PySem.Spec PyProof.Rows L2

/-! ### values, cells, results -/
/-- a value: data that never changes, a cell of the store that may be handed on, a cell of one frame's own, a thing of the written part -/
inductive Mv where
  | d (x : PyData) | ref (i : Nat) | own (i : Nat) | adr (a : Addr) | ty (n : String)
inductive Mo where
  | lst (xs : List Mv) | tup (xs : List Mv) | dct (kvs : List (Key × Mv)) | ins (C : Addr) (fs : List (Str × Mv)) | gone
abbrev Sg := List (Bool × Mo)
abbrev Rho := List (Option Mv)
abbrev Io := List (Bool × Addr)
structure Ex where
  cls : Value
  fs : Option (List (Str × Mv))
inductive Res (α : Type) where
  | ok (x : α) (S : Sg) | exc (e : Ex) (S : Sg) | bad
def Res.bind {α β : Type} : Res α → (α → Sg → Res β) → Res β
  | .ok x S, f => f x S
  | .exc e S, _ => .exc e S
  | .bad, _ => .bad
abbrev ME := Rho → Sg → Res Mv
abbrev MT := Rho → Sg → Res Bool
abbrev MA := Rho → Sg → Res (List Mv)
inductive RS where
  | nx (ρ : Rho) (S : Sg) | rt (x : Mv) (S : Sg) | bk (ρ : Rho) (S : Sg) | ct (ρ : Rho) (S : Sg) | exc (e : Ex) (ρ : Rho) (S : Sg) | bad
abbrev MS := Rho → Sg → RS

/-! ### frozen data -/
def FzL (K : PySem.W.Frag) (H : Hp) (a : Addr) (xs : List V) : Prop :=
  (∃ o, H a = some (.frz o (.lst xs))) ∨ ∃ (its : Array Value) (n : Nat), K.lookup a = some { cls := .type "list", data := .seq its n } ∧ its.size ≤ sizeLine ∧ Vals xs its.toList
/-- a list whose object is a plain one -/
def PlnL (K : PySem.W.Frag) (H : Hp) (a : Addr) (xs : List V) : Prop := H a = some (.lst xs) ∨ FzL K H a xs
theorem FzL.sq {K : PySem.W.Frag} {H : Hp} {a : Addr} {xs : List V} (h : FzL K H a xs) : SqL K H a xs := by
  rcases h with h | ⟨its, n, h1, h2, h3⟩
  · exact .inl (.inr h)
  · exact .inr ⟨_, its, n, h1, rfl, rfl, rfl, h2, h3⟩
theorem PlnL.sq {K : PySem.W.Frag} {H : Hp} {a : Addr} {xs : List V} (h : PlnL K H a xs) : SqL K H a xs := by
  rcases h with h | h
  · exact .inl (.inl h)
  · exact h.sq
theorem PlnL.obj {X : Cx} {pins : List (Addr × Obj)} {σ : L2.St} {H : Hp} {s : Shared} {a : Addr} {xs : List V} (I : Inv X pins σ H s) (h : PlnL X.K H a xs) :
    ∃ (its : List Value) (n : Nat), s.heap.get? a = some { cls := .type "list", data := .seq its.toArray n } ∧ Vals xs its ∧ xs.length ≤ sizeLine := by
  rcases h with h | ⟨o, h⟩ | ⟨its, n, h1, h2, h3⟩
  · obtain ⟨z, its, n, r, e⟩ := I.hok a _ h
    exact ⟨its, n, e, r, z⟩
  · obtain ⟨_, z, its, n, r, e⟩ := I.hok a _ h
    exact ⟨its, n, e, r, z⟩
  · refine ⟨its.toList, n, ?_, h3, by rw [h3.length]; simpa using h2⟩
    have e := I.kIn _ _ h1
    simpa using e
def keyD : Key → PyData
  | .inl i => .int i
  | .inr x => .str x
mutual
inductive FD (K : PySem.W.Frag) (H : Hp) : PyData → V → Prop
  | non : FD K H .none .non
  | bl (b : Bool) : FD K H (.bool b) (.bl b)
  | int (i : Int) : FD K H (.int i) (.int i)
  | str (x : Str) : FD K H (.str x) (.str x)
  | lst {a : Addr} {xs : List V} {ds : List PyData} : FzL K H a xs → FDs K H ds xs → FD K H (.list ds) (.ref a)
  | tup {a : Addr} {xs : List V} {ds : List PyData} : SqT K H a xs → FDs K H ds xs → FD K H (.tuple ds) (.ref a)
  | dct {a : Addr} {o : Obj} {kvs : List (Key × V)} {ds : List (PyData × PyData)} : H a = some (.frz o (.dK kvs)) → FDk K H ds kvs → FD K H (.dict ds) (.ref a)
inductive FDs (K : PySem.W.Frag) (H : Hp) : List PyData → List V → Prop
  | nil : FDs K H [] []
  | cons {v : V} {vs : List V} {d : PyData} {ds : List PyData} : FD K H d v → FDs K H ds vs → FDs K H (d :: ds) (v :: vs)
inductive FDk (K : PySem.W.Frag) (H : Hp) : List (PyData × PyData) → List (Key × V) → Prop
  | nil : FDk K H [] []
  | cons {k : Key} {v : V} {vs : List (Key × V)} {d : PyData} {ds : List (PyData × PyData)} : FD K H d v → FDk K H ds vs → FDk K H ((keyD k, d) :: ds) ((k, v) :: vs)
end

/-- what never changes stays -/
structure Grow (H H' : Hp) : Prop where
  tup : ∀ a xs, H a = some (.tup xs) → H' a = some (.tup xs)
  frz : ∀ a o u, H a = some (.frz o u) → H' a = some (.frz o u)
theorem Grow.refl (H : Hp) : Grow H H := ⟨fun _ _ h => h, fun _ _ _ h => h⟩
theorem Grow.trans {H H1 H2 : Hp} (a : Grow H H1) (b : Grow H1 H2) : Grow H H2 := ⟨fun c xs h => b.tup c xs (a.tup c xs h), fun c o u h => b.frz c o u (a.frz c o u h)⟩
theorem Grow.new {H : Hp} {p : Addr} {o : HO} (h : H p = none) : Grow H (upd H p o) :=
  ⟨fun a xs e => by rw [upd_ne (ne_of_none e h)]; exact e, fun a ob u e => by rw [upd_ne (ne_of_none e h)]; exact e⟩
theorem Grow.write {H : Hp} {p : Addr} {o u : HO} (h : H p = some u) (m : Mut (some u)) : Grow H (upd H p o) :=
  ⟨fun a xs e => by rw [upd_ne (fun z => by rw [z, h] at e; cases e; exact m)]; exact e, fun a ob w e => by rw [upd_ne (fun z => by rw [z, h] at e; cases e; exact m)]; exact e⟩
section
variable {K : PySem.W.Frag} {H H' : Hp}
theorem FzL.mono {a : Addr} {xs : List V} (g : Grow H H') (h : FzL K H a xs) : FzL K H' a xs := by
  rcases h with ⟨o, h⟩ | h
  · exact .inl ⟨o, g.frz _ _ _ h⟩
  · exact .inr h
theorem SqT_mono {a : Addr} {xs : List V} (g : Grow H H') (h : SqT K H a xs) : SqT K H' a xs := by
  rcases h with (h | ⟨o, h⟩) | h
  · exact .inl (.inl (g.tup _ _ h))
  · exact .inl (.inr ⟨o, g.frz _ _ _ h⟩)
  · exact .inr h
mutual
theorem FD.mono (g : Grow H H') : ∀ {d : PyData} {v : V}, FD K H d v → FD K H' d v
  | _, _, .non => .non
  | _, _, .bl b => .bl b
  | _, _, .int i => .int i
  | _, _, .str x => .str x
  | _, _, .lst h hs => .lst (h.mono g) (FDs.mono g hs)
  | _, _, .tup h hs => .tup (SqT_mono g h) (FDs.mono g hs)
  | _, _, .dct h hs => .dct (g.frz _ _ _ h) (FDk.mono g hs)
theorem FDs.mono (g : Grow H H') : ∀ {ds : List PyData} {vs : List V}, FDs K H ds vs → FDs K H' ds vs
  | _, _, .nil => .nil
  | _, _, .cons h hs => .cons (FD.mono g h) (FDs.mono g hs)
theorem FDk.mono (g : Grow H H') : ∀ {ds : List (PyData × PyData)} {vs : List (Key × V)}, FDk K H ds vs → FDk K H' ds vs
  | _, _, .nil => .nil
  | _, _, .cons h hs => .cons (FD.mono g h) (FDk.mono g hs)
end

/-! ### values at a heap -/
def XV (K : PySem.W.Frag) (ι : Io) (H : Hp) : Mv → V → Prop
  | .d x, v => FD K H x v
  | .ref i, v => ∃ a, ι[i]? = some (false, a) ∧ v = .ref a
  | .own i, v => ∃ a, ι[i]? = some (true, a) ∧ v = .ref a
  | .adr a, v => v = .ref a
  | .ty n, v => v = .ty n
def Mv.free : Mv → Bool
  | .own _ => false
  | _ => true
/-- a value that may be stored -/
def XC (K : PySem.W.Frag) (ι : Io) (H : Hp) (x : Mv) (v : V) : Prop := x.free = true ∧ XV K ι H x v
abbrev XVs (K : PySem.W.Frag) (ι : Io) (H : Hp) : List Mv → List V → Prop := Paired (XV K ι H)
abbrev XCs (K : PySem.W.Frag) (ι : Io) (H : Hp) : List Mv → List V → Prop := Paired (XC K ι H)
def OV (K : PySem.W.Frag) (ι : Io) (H : Hp) (a : Addr) : Mo → Prop
  | .lst xs => ∃ vs, H a = some (.lst vs) ∧ XCs K ι H xs vs
  | .tup xs => ∃ vs, H a = some (.tup vs) ∧ XCs K ι H xs vs
  | .dct kvs => ∃ kv, H a = some (.dK kv) ∧ Paired (fun (p : Key × Mv) (q : Key × V) => p.1 = q.1 ∧ XC K ι H p.2 q.2) kvs kv
  | .ins C fs => ∃ dx fv, H a = some (.ins C dx fv) ∧ Paired (fun (p : Str × Mv) (q : Str × V) => p.1 = q.1 ∧ XC K ι H p.2 q.2) fs fv
  | .gone => True
structure Rl (K : PySem.W.Frag) (ι : Io) (S : Sg) (H : Hp) : Prop where
  flag : ι.map (·.1) = S.map (·.1)
  nd : (ι.map (·.2)).Nodup
  live : ∀ p ∈ ι, H p.2 ≠ none
  cell : ∀ (i : Nat) (b : Bool) (o : Mo) (a : Addr), S[i]? = some (b, o) → ι[i]? = some (b, a) → OV K ι H a o
/-- the store grew, what never changes stays, what is no cell stays -/
structure Sub (ι : Io) (H : Hp) (ι' : Io) (H' : Hp) : Prop where
  pre : ∃ t, ι' = ι ++ t ∧ ∀ q ∈ t, H q.2 = none
  grow : Grow H H'
  keep : ∀ p o, H p = some o → (∀ q ∈ ι, q.2 ≠ p) → H' p = some o
  live : ∀ p, H p ≠ none → H' p ≠ none
theorem Sub.same {ι : Io} {H H' : Hp} (g : Grow H H') (k : ∀ p o, H p = some o → (∀ q ∈ ι, q.2 ≠ p) → H' p = some o) (l : ∀ p, H p ≠ none → H' p ≠ none) : Sub ι H ι H' :=
  ⟨⟨[], (List.append_nil _).symm, fun _ h => nomatch h⟩, g, k, l⟩
theorem Sub.refl (ι : Io) (H : Hp) : Sub ι H ι H := Sub.same (Grow.refl H) (fun _ _ h _ => h) fun _ h => h
theorem Sub.trans {ι ι1 ι2 : Io} {H H1 H2 : Hp} (a : Sub ι H ι1 H1) (b : Sub ι1 H1 ι2 H2) : Sub ι H ι2 H2 := by
  obtain ⟨t, rfl, ht⟩ := a.pre
  obtain ⟨u, rfl, hu⟩ := b.pre
  refine ⟨⟨t ++ u, by rw [List.append_assoc], fun q hq => ?_⟩, a.grow.trans b.grow, fun p o h hp => ?_, fun p h => b.live p (a.live p h)⟩
  · rcases List.mem_append.mp hq with hq | hq
    · exact ht q hq
    · cases e : H q.2 with
      | none => rfl
      | some o => exact (a.live q.2 (by rw [e]; exact fun z => nomatch z) (hu q hq)).elim
  · refine b.keep p o (a.keep p o h hp) fun q hq => ?_
    rcases List.mem_append.mp hq with hq | hq
    · exact hp q hq
    · exact fun z => by rw [← z, ht q hq] at h; cases h
theorem Sub.at {ι ι' : Io} {H H' : Hp} (s : Sub ι H ι' H') {i : Nat} {p : Bool × Addr} (h : ι[i]? = some p) : ι'[i]? = some p := by
  obtain ⟨t, rfl, _⟩ := s.pre
  rw [List.getElem?_append_left (List.getElem?_eq_some_iff.mp h).1]; exact h
theorem Sub.new {ι : Io} {H : Hp} {p : Addr} {u : HO} (hp : H p = none) : Sub ι H ι (upd H p u) :=
  Sub.same (Grow.new hp) (fun q o e _ => by rw [upd_ne (ne_of_none e hp)]; exact e) fun q h => by
    by_cases e : q = p
    · rw [e, upd_same]; exact fun z => nomatch z
    · rw [upd_ne e]; exact h
theorem Sub.put {ι : Io} {H : Hp} {p : Addr} {b : Bool} {u v : HO} (hi : (b, p) ∈ ι) (hv : H p = some v) (m : Mut (some v)) : Sub ι H ι (upd H p u) :=
  Sub.same (Grow.write hv m) (fun q o e ne => by rw [upd_ne (fun z => ne _ hi z.symm)]; exact e) fun q h => by
    by_cases e : q = p
    · rw [e, upd_same]; exact fun z => nomatch z
    · rw [upd_ne e]; exact h
/-- a fresh thing is changed again -/
theorem Sub.again {ι ι' : Io} {H H' : Hp} {p : Addr} {u v : HO} (s : Sub ι H ι' H') (h0 : H p = none) (hv : H' p = some v) : Sub ι H ι' (upd H' p u) := by
  have ne : ∀ q o, H q = some o → q ≠ p := fun q o e z => by rw [z, h0] at e; cases e
  refine ⟨s.pre, ⟨fun a xs e => ?_, fun a o w e => ?_⟩, fun q o e hq => ?_, fun q h => ?_⟩
  · rw [upd_ne (ne a _ e)]; exact s.grow.tup a xs e
  · rw [upd_ne (ne a _ e)]; exact s.grow.frz a o w e
  · rw [upd_ne (ne q _ e)]; exact s.keep q o e hq
  · by_cases e : q = p
    · rw [e, upd_same]; exact fun z => nomatch z
    · rw [upd_ne e]; exact s.live q h
/-- a fresh thing becomes a cell -/
theorem Sub.cell {ι ι' : Io} {H H' : Hp} {p : Addr} {b : Bool} (s : Sub ι H ι' H') (h0 : H p = none) : Sub ι H (ι' ++ [(b, p)]) H' := by
  obtain ⟨t, rfl, ht⟩ := s.pre
  refine ⟨⟨t ++ [(b, p)], by rw [List.append_assoc], fun q hq => ?_⟩, s.grow, s.keep, s.live⟩
  rcases List.mem_append.mp hq with hq | hq
  · exact ht q hq
  · have : q = (b, p) := by simpa using hq
    rw [this]; exact h0
variable {ι ι' : Io} {S S' : Sg}
theorem XV.grown (hp : ∃ t, ι' = ι ++ t) (g : Grow H H') : ∀ {x : Mv} {v : V}, XV K ι H x v → XV K ι' H' x v
  | .d _, _, h => FD.mono g h
  | .ref _, _, ⟨a, h, e⟩ => ⟨a, by obtain ⟨t, rfl⟩ := hp; rw [List.getElem?_append_left (List.getElem?_eq_some_iff.mp h).1]; exact h, e⟩
  | .own _, _, ⟨a, h, e⟩ => ⟨a, by obtain ⟨t, rfl⟩ := hp; rw [List.getElem?_append_left (List.getElem?_eq_some_iff.mp h).1]; exact h, e⟩
  | .adr _, _, h => h
  | .ty _, _, h => h
theorem Sub.pre' {ι ι' : Io} {H H' : Hp} (s : Sub ι H ι' H') : ∃ t, ι' = ι ++ t := let ⟨t, e, _⟩ := s.pre; ⟨t, e⟩
theorem XV.mono (s : Sub ι H ι' H') {x : Mv} {v : V} (h : XV K ι H x v) : XV K ι' H' x v := h.grown s.pre' s.grow
theorem XC.mono (s : Sub ι H ι' H') {x : Mv} {v : V} (h : XC K ι H x v) : XC K ι' H' x v := ⟨h.1, h.2.mono s⟩
theorem XVs.mono (s : Sub ι H ι' H') {xs : List Mv} {vs : List V} (h : XVs K ι H xs vs) : XVs K ι' H' xs vs := L2.Paired.mapP h fun _ _ r => r.mono s
theorem XCs.mono (s : Sub ι H ι' H') {xs : List Mv} {vs : List V} (h : XCs K ι H xs vs) : XCs K ι' H' xs vs := L2.Paired.mapP h fun _ _ r => r.mono s
theorem XCs.grown (hp : ∃ t, ι' = ι ++ t) (g : Grow H H') {xs : List Mv} {vs : List V} (h : XCs K ι H xs vs) : XCs K ι' H' xs vs := L2.Paired.mapP h fun _ _ r => ⟨r.1, r.2.grown hp g⟩
theorem XCs.xv {xs : List Mv} {vs : List V} (h : XCs K ι H xs vs) : XVs K ι H xs vs := L2.Paired.mapP h fun _ _ r => r.2
/-- contents carried over -/
theorem OV.grown (hp : ∃ t, ι' = ι ++ t) (g : Grow H H') {a : Addr} {o : Mo} (e : H' a = H a) (h : OV K ι H a o) : OV K ι' H' a o := by
  cases o with
  | lst xs => obtain ⟨vs, e1, r⟩ := h; exact ⟨vs, e.trans e1, XCs.grown hp g r⟩
  | tup xs => obtain ⟨vs, e1, r⟩ := h; exact ⟨vs, e.trans e1, XCs.grown hp g r⟩
  | dct kvs => obtain ⟨kv, e1, r⟩ := h; exact ⟨kv, e.trans e1, L2.Paired.mapP r fun _ _ q => ⟨q.1, q.2.1, q.2.2.grown hp g⟩⟩
  | ins C fs => obtain ⟨dx, fv, e1, r⟩ := h; exact ⟨dx, fv, e.trans e1, L2.Paired.mapP r fun _ _ q => ⟨q.1, q.2.1, q.2.2.grown hp g⟩⟩
  | gone => trivial
theorem OV.carry (s : Sub ι H ι' H') {a : Addr} {o : Mo} (e : H' a = H a) (h : OV K ι H a o) : OV K ι' H' a o := OV.grown s.pre' s.grow e h
def LR (K : PySem.W.Frag) (ι : Io) (H : Hp) (ρ : Rho) (σ : L2.St) : Prop :=
  ρ.length = σ.length ∧ ∀ (i : Nat) (x : Mv), ρ[i]? = some (some x) → ∃ v, σ[i]? = some (some v) ∧ XV K ι H x v
theorem LR.mono (s : Sub ι H ι' H') {ρ : Rho} {σ : L2.St} (h : LR K ι H ρ σ) : LR K ι' H' ρ σ :=
  ⟨h.1, fun i x e => let ⟨v, e1, r⟩ := h.2 i x e; ⟨v, e1, r.mono s⟩⟩
theorem LR.set {ρ : Rho} {σ : L2.St} (h : LR K ι H ρ σ) (i : Nat) {x : Mv} {v : V} (r : XV K ι H x v) : LR K ι H (ρ.set i (some x)) (σ.set i (some v)) := by
  refine ⟨by rw [List.length_set, List.length_set]; exact h.1, fun j y e => ?_⟩
  by_cases hj : i = j
  · subst hj
    by_cases hl : i < ρ.length
    · rw [List.getElem?_set_self hl] at e
      cases e
      exact ⟨v, by rw [List.getElem?_set_self (h.1 ▸ hl)], r⟩
    · rw [List.getElem?_eq_none (by rw [List.length_set]; omega)] at e; cases e
  · rw [List.getElem?_set_ne hj] at e
    obtain ⟨u, e1, r1⟩ := h.2 j y e
    exact ⟨u, by rw [List.getElem?_set_ne hj]; exact e1, r1⟩
def ExR (K : PySem.W.Frag) (ι : Io) (H : Hp) (e : Ex) (d : Option Addr) : Prop :=
  match e.fs with
  | none => True
  | some l => ∃ dd kv, d = some dd ∧ H dd = some (.xd kv) ∧ Paired (fun (p : Str × Mv) (q : Str × V) => p.1 = q.1 ∧ XV K ι H p.2 q.2) l kv

/-! ### the store's moves -/
theorem Rl.len (h : Rl K ι S H) : ι.length = S.length := by
  have := congrArg List.length h.flag
  simpa using this
theorem Rl.at (h : Rl K ι S H) {i : Nat} {b : Bool} {o : Mo} (e : S[i]? = some (b, o)) : ∃ a, ι[i]? = some (b, a) ∧ OV K ι H a o := by
  have h1 : (ι.map (·.1))[i]? = some b := by rw [h.flag, List.getElem?_map, e]; rfl
  rw [List.getElem?_map] at h1
  cases q : ι[i]? with
  | none => rw [q] at h1; cases h1
  | some p =>
    obtain ⟨b', a⟩ := p
    rw [q] at h1
    cases h1
    exact ⟨a, rfl, h.cell i b' o a e q⟩
/-- a new cell -/
theorem Rl.push (h : Rl K ι S H) {p : Addr} {u : HO} {b : Bool} {o : Mo} (hp : H p = none) (hu : OV K (ι ++ [(b, p)]) (upd H p u) p o) :
    Rl K (ι ++ [(b, p)]) (S ++ [(b, o)]) (upd H p u) ∧ Sub ι H (ι ++ [(b, p)]) (upd H p u) := by
  have sb : Sub ι H (ι ++ [(b, p)]) (upd H p u) := (Sub.new hp).cell hp
  refine ⟨⟨by simp [h.flag], ?_, fun q hq => ?_, fun i c w a e1 e2 => ?_⟩, sb⟩
  · rw [List.map_append]
    refine List.nodup_append.mpr ⟨h.nd, by simp, fun x hx y hy e => ?_⟩
    have hy' : y = p := by simpa using hy
    obtain ⟨q, hq, rfl⟩ := List.mem_map.mp hx
    exact h.live q hq (by rw [e, hy', hp])
  · rcases List.mem_append.mp hq with hq | hq
    · have : q.2 ≠ p := fun z => h.live q hq (by rw [z]; exact hp)
      rw [upd_ne this]; exact h.live q hq
    · have : q = (b, p) := by simpa using hq
      rw [this, upd_same]; exact fun z => by cases z
  · by_cases hi : i < S.length
    · rw [List.getElem?_append_left hi] at e1
      rw [List.getElem?_append_left (by rw [h.len]; exact hi)] at e2
      refine OV.carry sb ?_ (h.cell i c w a e1 e2)
      have hm : (c, a) ∈ ι := List.mem_of_getElem? e2
      exact upd_ne fun z => h.live _ hm (by rw [show ((c, a) : Bool × Addr).2 = a from rfl, z]; exact hp)
    · have hl : (S ++ [(b, o)]).length = S.length + 1 := by simp
      have hlt := (List.getElem?_eq_some_iff.mp e1).1
      have ei : i = S.length := by omega
      subst ei
      rw [List.getElem?_append_right (Nat.le_refl _)] at e1
      rw [List.getElem?_append_right (by rw [h.len]; exact Nat.le_refl _), h.len] at e2
      simp at e1 e2
      obtain ⟨rfl, rfl⟩ := e1
      obtain ⟨_, rfl⟩ := e2
      exact hu
/-- something new beside the store -/
theorem Rl.beside (h : Rl K ι S H) {p : Addr} {u : HO} (hp : H p = none) : Rl K ι S (upd H p u) ∧ Sub ι H ι (upd H p u) := by
  have sb : Sub ι H ι (upd H p u) := Sub.new hp
  have ne : ∀ q ∈ ι, q.2 ≠ p := fun q hq z => h.live q hq (by rw [z]; exact hp)
  refine ⟨⟨h.flag, h.nd, fun q hq => by rw [upd_ne (ne q hq)]; exact h.live q hq, fun i c w a e1 e2 => ?_⟩, sb⟩
  exact OV.carry sb (upd_ne (ne _ (List.mem_of_getElem? e2))) (h.cell i c w a e1 e2)
/-- what is tracked and no cell of the store changes -/
theorem Rl.aside (h : Rl K ι S H) {p : Addr} {u v : HO} (hp : H p = some v) (m : Mut (some v)) (ne : ∀ q ∈ ι, q.2 ≠ p) : Rl K ι S (upd H p u) := by
  refine ⟨h.flag, h.nd, fun q hq => by rw [upd_ne (ne q hq)]; exact h.live q hq, fun i c w a e1 e2 => ?_⟩
  exact OV.grown ⟨[], (List.append_nil _).symm⟩ (Grow.write hp m) (upd_ne (ne _ (List.mem_of_getElem? e2))) (h.cell i c w a e1 e2)
theorem nodup_at {ι : Io} (nd : (ι.map (·.2)).Nodup) {i j : Nat} {b c : Bool} {a : Addr} (hi : ι[i]? = some (b, a)) (hj : ι[j]? = some (c, a)) : i = j := by
  have h1 := List.getElem?_eq_some_iff.mp hi
  have h2 := List.getElem?_eq_some_iff.mp hj
  obtain ⟨l1, e1⟩ := h1
  obtain ⟨l2, e2⟩ := h2
  have n1 : i < (ι.map (·.2)).length := by simpa using l1
  have n2 : j < (ι.map (·.2)).length := by simpa using l2
  refine (List.getElem_inj (h₀ := n1) (h₁ := n2) nd).mp ?_
  rw [List.getElem_map, List.getElem_map, e1, e2]
/-- a cell is written -/
theorem Rl.put (h : Rl K ι S H) {i : Nat} {b : Bool} {o : Mo} {a : Addr} {u v : HO} (hS : ∃ o', S[i]? = some (b, o')) (hi : ι[i]? = some (b, a)) (hv : H a = some v) (m : Mut (some v))
    (ho : OV K ι (upd H a u) a o) : Rl K ι (S.set i (b, o)) (upd H a u) ∧ Sub ι H ι (upd H a u) := by
  have sb : Sub ι H ι (upd H a u) := Sub.put (List.mem_of_getElem? hi) hv m
  obtain ⟨o', hS⟩ := hS
  have hl := (List.getElem?_eq_some_iff.mp hS).1
  refine ⟨⟨?_, h.nd, fun q hq => ?_, fun j c w x e1 e2 => ?_⟩, sb⟩
  · rw [h.flag]
    refine List.ext_getElem? fun j => ?_
    rw [List.getElem?_map, List.getElem?_map]
    by_cases hj : i = j
    · subst hj
      rw [List.getElem?_set_self hl, hS]; rfl
    · rw [List.getElem?_set_ne hj]
  · by_cases hq2 : q.2 = a
    · rw [hq2, upd_same]; exact fun z => by cases z
    · rw [upd_ne hq2]; exact h.live q hq
  · by_cases hj : i = j
    · subst hj
      rw [List.getElem?_set_self hl] at e1
      rw [hi] at e2
      cases e1; cases e2
      exact ho
    · rw [List.getElem?_set_ne hj] at e1
      refine OV.carry sb (upd_ne fun z => ?_) (h.cell j c w x e1 e2)
      subst z
      exact hj (nodup_at h.nd hi e2)
/-- a cell is given up -/
theorem Rl.drop (h : Rl K ι S H) {i : Nat} {b : Bool} (hS : ∃ o', S[i]? = some (b, o')) : Rl K ι (S.set i (b, .gone)) H := by
  obtain ⟨o', hS⟩ := hS
  have hl := (List.getElem?_eq_some_iff.mp hS).1
  refine ⟨?_, h.nd, h.live, fun j c w x e1 e2 => ?_⟩
  · rw [h.flag]
    refine List.ext_getElem? fun j => ?_
    rw [List.getElem?_map, List.getElem?_map]
    by_cases hj : i = j
    · subst hj
      rw [List.getElem?_set_self hl, hS]; rfl
    · rw [List.getElem?_set_ne hj]
  · by_cases hj : i = j
    · subst hj
      rw [List.getElem?_set_self hl] at e1
      cases e1
      trivial
    · rw [List.getElem?_set_ne hj] at e1
      exact h.cell j c w x e1 e2
/-- a frame's own cells at the end are let go -/
theorem XV.trim {t : Io} (ht : ∀ p ∈ t, p.1 = true) : ∀ {x : Mv} {v : V}, x.free = true → XV K (ι ++ t) H x v → XV K ι H x v
  | .d _, _, _, h => h
  | .ref i, _, _, ⟨a, h, e⟩ => by
    refine ⟨a, ?_, e⟩
    by_cases hi : i < ι.length
    · rw [List.getElem?_append_left hi] at h; exact h
    · rw [List.getElem?_append_right (by omega)] at h
      have := ht _ (List.mem_of_getElem? h)
      cases this
  | .adr _, _, _, h => h
  | .ty _, _, _, h => h
theorem Rl.trim {t : Io} {T : Sg} (h : Rl K (ι ++ t) (S ++ T) H) (hl : ι.length = S.length) (hT : ∀ p ∈ T, p.1 = true) : Rl K ι S H := by
  have hf : ι.map (·.1) = S.map (·.1) ∧ t.map (·.1) = T.map (·.1) := by
    have e := h.flag
    rw [List.map_append, List.map_append] at e
    exact List.append_inj e (by simpa using hl)
  have ht : ∀ p ∈ t, p.1 = true := fun p hp => by
    have : p.1 ∈ T.map (·.1) := by rw [← hf.2]; exact List.mem_map_of_mem hp
    obtain ⟨q, hq, e⟩ := List.mem_map.mp this
    rw [← e]; exact hT q hq
  have tr : ∀ {x : Mv} {v : V}, XC K (ι ++ t) H x v → XC K ι H x v := fun r => ⟨r.1, XV.trim ht r.1 r.2⟩
  refine ⟨hf.1, ?_, fun p hp => h.live p (List.mem_append_left _ hp), fun i b o a e1 e2 => ?_⟩
  · have := h.nd
    rw [List.map_append] at this
    exact (List.nodup_append.mp this).1
  · have i1 := (List.getElem?_eq_some_iff.mp e1).1
    have i2 := (List.getElem?_eq_some_iff.mp e2).1
    have q := h.cell i b o a (by rw [List.getElem?_append_left i1]; exact e1) (by rw [List.getElem?_append_left i2]; exact e2)
    cases o with
    | lst xs => obtain ⟨vs, e, r⟩ := q; exact ⟨vs, e, L2.Paired.mapP r fun _ _ z => tr z⟩
    | tup xs => obtain ⟨vs, e, r⟩ := q; exact ⟨vs, e, L2.Paired.mapP r fun _ _ z => tr z⟩
    | dct kvs => obtain ⟨kv, e, r⟩ := q; exact ⟨kv, e, L2.Paired.mapP r fun _ _ z => ⟨z.1, tr z.2⟩⟩
    | ins C fs => obtain ⟨dx, fv, e, r⟩ := q; exact ⟨dx, fv, e, L2.Paired.mapP r fun _ _ z => ⟨z.1, tr z.2⟩⟩
    | gone => trivial
end
end MM
end
section
set_option Elab.async false
set_option linter.all false
set_option maxRecDepth 100000
set_option maxHeartbeats 4000000
set_option autoImplicit false
namespace MM
open PySem PySem.Spec PyProof.Rows L2

/-! ### the reading of a mirror -/
section
variable {α β γ δ : Type}
def Post (R : Io → Hp → α → β → Prop) (K : PySem.W.Frag) (W : WX) (ι : Io) (σ : L2.St) (H : Hp) (Q : β → Hp → Prop) : Res α → Prop
  | .ok x S' => ∀ ι' H' v, Sub ι H ι' H' → Rl K ι' S' H' → R ι' H' x v → Q v H'
  | .exc e S' => ∀ ι' H' d, Sub ι H ι' H' → Rl K ι' S' H' → ExR K ι' H' e d → W e.cls d σ H'
  | .bad => False
def tG (R : Io → Hp → α → β → Prop) (K : PySem.W.Frag) (W : WX) (m : Rho → Sg → Res α) : L2.St → Hp → (β → Hp → Prop) → Prop :=
  fun σ H Q => ∃ ι S ρ, LR K ι H ρ σ ∧ Rl K ι S H ∧ Post R K W ι σ H Q (m ρ S)
variable {R : Io → Hp → α → β → Prop} {R' : Io → Hp → γ → δ → Prop} {K : PySem.W.Frag} {W : WX} {ι ι1 : Io} {σ : L2.St} {H H1 : Hp} {S : Sg}
theorem Post.sub {Q : β → Hp → Prop} {r : Res α} (s : Sub ι H ι1 H1) (h : Post R K W ι σ H Q r) : Post R K W ι1 σ H1 Q r := by
  cases r with
  | ok x S' => exact fun ι' H' v s' => h ι' H' v (s.trans s')
  | exc e S' => exact fun ι' H' d s' => h ι' H' d (s.trans s')
  | bad => exact h
theorem step {Q : δ → Hp → Prop} {T : β → Hp → Prop} {m : Res α} {f : α → Sg → Res γ} (hp : Post R' K W ι σ H Q (m.bind f))
    (k : ∀ x v ι1 H1 S1, Sub ι H ι1 H1 → Rl K ι1 S1 H1 → R ι1 H1 x v → Post R' K W ι1 σ H1 Q (f x S1) → T v H1) : Post R K W ι σ H T m := by
  cases m with
  | ok x S' => exact fun ι' H' v s r x' => k x v ι' H' S' s r x' (hp.sub s)
  | exc e S' => exact hp
  | bad => exact hp
theorem Post.imp {Q T : β → Hp → Prop} {r : Res α} (h : Post R K W ι σ H Q r) (k : ∀ v H, Q v H → T v H) : Post R K W ι σ H T r := by
  cases r with
  | ok x S' => exact fun ι' H' v s r q => k _ _ (h ι' H' v s r q)
  | exc e S' => exact h
  | bad => exact h
end

abbrev RB : Io → Hp → Bool → Bool → Prop := fun _ _ b c => b = c
def PM (X : Cx) (W : WX) (e : Expr) (m : ME) : Prop := PE X e (tG (XV X.K) X.K W m)
def PB (X : Cx) (W : WX) (e : Expr) (m : MT) : Prop := PT X e (tG RB X.K W m)
def PWB (X : Cx) (W : WX) (e : Expr) (m : MT) : Prop := PW X e (tG RB X.K W m)
def PL (X : Cx) (W : WX) (es : List Expr) (m : MA) : Prop := PA X es (tG (XVs X.K) X.K W m)

theorem pe_imp {X : Cx} {e : Expr} {t t' : TE} (h : PE X e t) (i : ∀ σ H Q, t' σ H Q → t σ H Q) : PE X e t' := ⟨fun pins s σ H Q I q => h.run pins s σ H Q I (i _ _ _ q)⟩
theorem pt_imp {X : Cx} {e : Expr} {t t' : TT} (h : PT X e t) (i : ∀ σ H Q, t' σ H Q → t σ H Q) : PT X e t' := ⟨fun pins s σ H Q I q => h.run pins s σ H Q I (i _ _ _ q)⟩
theorem pw_imp {X : Cx} {e : Expr} {t t' : TT} (h : PW X e t) (i : ∀ σ H Q, t' σ H Q → t σ H Q) : PW X e t' := ⟨fun whole pins s σ H Q I q => h.run whole pins s σ H Q I (i _ _ _ q)⟩
theorem pa_imp {X : Cx} {e : List Expr} {t t' : TA} (h : PA X e t) (i : ∀ σ H Q, t' σ H Q → t σ H Q) : PA X e t' := ⟨fun pos pins s σ H Q I q => h.run pos pins s σ H Q I (i _ _ _ q)⟩
theorem ps_imp {X : Cx} {e : Stmt} {t t' : TS} (h : PS X e t) (i : ∀ D σ H, t' D σ H → t D σ H) : PS X e t' := ⟨fun pins s σ H Q I q => h.run pins s σ H Q I (i _ _ _ q)⟩
theorem pss_imp {X : Cx} {e : List Stmt} {t t' : TS} (h : PSs X e t) (i : ∀ D σ H, t' D σ H → t D σ H) : PSs X e t' := ⟨fun pins s σ H Q I q => h.run pins s σ H Q I (i _ _ _ q)⟩
theorem OpR.imp {X : Cx} {f : Value → Value → Sem Value} {r r' : R2} (h : OpR X f r) (i : ∀ x y H Q, r' x y H Q → r x y H Q) : OpR X f r' := fun pins s σ H x y v u Q I rx ry q => h pins s σ H x y v u Q I rx ry (i _ _ _ _ q)

/-! ### a result that may be a new list -/
inductive Nw where
  | val (z : Mv) | lst (xs : List Mv) | tup (xs : List Mv)
inductive Bi where
  | frz | ref | own
def allD : List Mv → Option (List PyData)
  | [] => some []
  | .d x :: r => (allD r).map (x :: ·)
  | _ :: _ => none
def frees (xs : List Mv) : Bool := xs.all (·.free)
def bear (b : Bi) (n : Nw) (S : Sg) : Res Mv :=
  match n with
  | .val z => .ok z S
  | .lst xs =>
    match b with
    | .frz => match allD xs with | some ds => .ok (.d (.list ds)) S | none => .bad
    | .ref => .ok (.ref S.length) (S ++ [(false, .lst xs)])
    | .own => .ok (.own S.length) (S ++ [(true, .lst xs)])
  | .tup xs => match allD xs with | some ds => .ok (.d (.tuple ds)) S | none => .ok (.ref S.length) (S ++ [(false, .tup xs)])
def Raw (K : PySem.W.Frag) (ι : Io) (H : Hp) (Q : VK) : Nw → Prop
  | .val z => ∀ w, XV K ι H z w → Q w H
  | .lst xs => ∀ vs p, XCs K ι H xs vs → H p = none → Q (.ref p) (upd H p (.lst vs))
  | .tup xs => ∀ vs p, XCs K ι H xs vs → H p = none → Q (.ref p) (upd H p (.tup vs))
def Qf (b : Bi) (Q : VK) : VK := fun v H => match b with
  | .frz => Q v H ∨ ∃ a u, v = .ref a ∧ H a = some u ∧ Mut (some u) ∧ ∀ o, Q v (upd H a (.frz o u))
  | _ => Q v H
theorem pe_b {X : Cx} {e : Expr} {t : TE} (b : Bi) (h : PE X e t) : PE X e (fun σ H Q => t σ H (Qf b Q)) := by
  cases b with
  | frz =>
    refine ⟨fun pins s σ H Q I q => thn (h.run pins s σ H _ I q) fun v s1 ⟨x, H1, I1, r, q⟩ => ?_⟩
    rcases q with q | ⟨a, u, rfl, ha, mu, q⟩
    · exact ⟨x, H1, I1, r, q⟩
    · obtain ⟨od, I2⟩ := I1.lock ha mu
      exact ⟨_, _, I2, r, q od⟩
  | ref => exact h
  | own => exact h
section
variable {K : PySem.W.Frag} {ι : Io} {H : Hp} {S : Sg}
theorem allD_FDs {xs : List Mv} {ds : List PyData} {vs : List V} (h : XCs K ι H xs vs) (e : allD xs = some ds) : FDs K H ds vs := by
  induction h generalizing ds with
  | nil => cases e; exact .nil
  | @cons x v xs vs r t ih =>
    cases x with
    | d y =>
      simp only [allD, Option.map_eq_some_iff] at e
      obtain ⟨r', e1, rfl⟩ := e
      exact .cons r.2 (ih e1)
    | ref i => cases e
    | _ => cases e
/-- something fresh beside the store is taken into it -/
theorem Rl.adopt (h : Rl K ι S H) {p : Addr} {b : Bool} {o : Mo} (hp : H p ≠ none) (hq : ∀ q ∈ ι, q.2 ≠ p) (hu : OV K (ι ++ [(b, p)]) H p o) : Rl K (ι ++ [(b, p)]) (S ++ [(b, o)]) H := by
  refine ⟨by simp [h.flag], ?_, fun q hq2 => ?_, fun i c w a e1 e2 => ?_⟩
  · rw [List.map_append]
    refine List.nodup_append.mpr ⟨h.nd, by simp, fun x hx y hy e => ?_⟩
    have hy' : y = p := by simpa using hy
    obtain ⟨q, hq2, rfl⟩ := List.mem_map.mp hx
    exact hq q hq2 (e.trans hy')
  · rcases List.mem_append.mp hq2 with hq2 | hq2
    · exact h.live q hq2
    · have : q = (b, p) := by simpa using hq2
      rw [this]; exact hp
  · by_cases hi : i < S.length
    · rw [List.getElem?_append_left hi] at e1
      rw [List.getElem?_append_left (by rw [h.len]; exact hi)] at e2
      exact OV.grown ⟨_, rfl⟩ (Grow.refl H) rfl (h.cell i c w a e1 e2)
    · have hlt := (List.getElem?_eq_some_iff.mp e1).1
      have hl : (S ++ [(b, o)]).length = S.length + 1 := by simp
      have ei : i = S.length := by omega
      subst ei
      rw [List.getElem?_append_right (Nat.le_refl _)] at e1
      rw [List.getElem?_append_right (by rw [h.len]; exact Nat.le_refl _), h.len] at e2
      simp at e1 e2
      obtain ⟨rfl, rfl⟩ := e1
      obtain ⟨_, rfl⟩ := e2
      exact hu
theorem last_at {ι : Io} {x : Bool × Addr} {n : Nat} (h : ι.length = n) : (ι ++ [x])[n]? = some x := by
  subst h
  rw [List.getElem?_append_right (Nat.le_refl _), Nat.sub_self]; rfl
/-- what bear tells of a list that lies beside the store; ahead (ι0, H0) it was not there -/
theorem bear_lst {W : WX} {σ : L2.St} {Q : VK} {b : Bi} {xs : List Mv} {vs : List V} {p : Addr} {ι0 : Io} {H0 : Hp} (s0 : Sub ι0 H0 ι H) (h0 : H0 p = none) (hr : Rl K ι S H) (hp : H p = some (.lst vs)) (hq : ∀ q ∈ ι, q.2 ≠ p) (hx : XCs K ι H xs vs)
    (h : Post (XV K) K W ι0 σ H0 Q (bear b (.lst xs) S)) : Qf b Q (.ref p) H := by
  cases b with
  | frz =>
    refine .inr ⟨p, _, rfl, hp, trivial, fun o => ?_⟩
    simp only [bear] at h
    cases e : allD xs with
    | none => rw [e] at h; exact h.elim
    | some ds =>
      rw [e] at h
      have r1 := hr.aside (u := .frz o (.lst vs)) hp trivial hq
      exact h _ _ _ (s0.again h0 hp) r1 (.lst (.inl ⟨o, upd_same⟩) (FDs.mono (Grow.write hp trivial) (allD_FDs hx e)))
  | ref =>
    have r1 := hr.adopt (b := false) (o := .lst xs) (by rw [hp]; exact fun z => nomatch z) hq ⟨vs, hp, XCs.grown ⟨_, rfl⟩ (Grow.refl H) hx⟩
    exact h _ _ _ (s0.cell h0) r1 ⟨p, last_at hr.len, rfl⟩
  | own =>
    have r1 := hr.adopt (b := true) (o := .lst xs) (by rw [hp]; exact fun z => nomatch z) hq ⟨vs, hp, XCs.grown ⟨_, rfl⟩ (Grow.refl H) hx⟩
    exact h _ _ _ (s0.cell h0) r1 ⟨p, last_at hr.len, rfl⟩
theorem bear_raw {W : WX} {σ : L2.St} {Q : VK} {b : Bi} {n : Nw} (hr : Rl K ι S H) (h : Post (XV K) K W ι σ H Q (bear b n S)) : Raw K ι H (Qf b Q) n := by
  cases n with
  | val z =>
    intro w hz
    have q : Q w H := h _ _ _ (Sub.refl _ _) hr hz
    cases b with
    | frz => exact .inl q
    | ref => exact q
    | own => exact q
  | lst xs =>
    intro vs p hx hp
    obtain ⟨r1, s1⟩ := hr.beside (u := .lst vs) hp
    exact bear_lst s1 hp r1 upd_same (fun q hq z => hr.live q hq (by rw [z]; exact hp)) (XCs.mono s1 hx) h
  | tup xs =>
    intro vs p hx hp
    have q : Q (.ref p) (upd H p (.tup vs)) := by
      simp only [bear] at h
      cases e : allD xs with
      | none =>
        rw [e] at h
        obtain ⟨r1, s1⟩ := hr.push (u := .tup vs) (b := false) (o := .tup xs) hp ⟨vs, upd_same, XCs.grown ⟨_, rfl⟩ (Grow.new hp) hx⟩
        exact h _ _ _ s1 r1 ⟨p, last_at hr.len, rfl⟩
      | some ds =>
        rw [e] at h
        obtain ⟨r1, s1⟩ := hr.beside (u := .tup vs) hp
        exact h _ _ _ s1 r1 (.tup (.inl (.inl upd_same)) (FDs.mono s1.grow (allD_FDs hx e)))
    cases b with
    | frz => exact .inl q
    | ref => exact q
    | own => exact q
end

/-! ### names and constants -/
def mVar (i : Nat) : ME := fun ρ S => match ρ[i]? with | some (some x) => .ok x S | _ => .bad
def mC (d : PyData) : ME := fun _ S => .ok (.d d) S
def mK (x : Mv) : ME := fun _ S => .ok x S
section
variable {X : Cx} {W : WX}
theorem pm_var (i : Nat) {x : Str} {pos : Pos} (hN : X.N[i]? = some x := by rfl) (hv : Vis X.env.scope x := by first | exact Or.inl rfl | exact Or.inr (Or.inl rfl) | exact Or.inr (Or.inr rfl)) (hd : (x == ("__debug__" : Str)) = false := by decide)
    (hcd : (x == ("__classdict__" : Str)) = false := by decide) : PM X W (.Name x pos) (mVar i) := by
  refine pe_imp (pe_var hN hv hd hcd) fun σ H Q ⟨ι, S, ρ, hl, hr, h⟩ => ?_
  unfold mVar at h
  cases e : ρ[i]? with
  | none => rw [e] at h; exact h.elim
  | some y =>
    cases y with
    | none => rw [e] at h; exact h.elim
    | some y =>
      rw [e] at h
      obtain ⟨v, e1, r⟩ := hl.2 i y e
      exact ⟨v, e1, h _ _ _ (Sub.refl _ _) hr r⟩
theorem pm_c {e : Expr} {v : V} {d : PyData} (h : PE X e (tC v)) (hd : ∀ H, FD X.K H d v) : PM X W e (mC d) :=
  pe_imp h fun σ H Q ⟨ι, S, ρ, hl, hr, h⟩ => h _ _ _ (Sub.refl _ _) hr (hd H)
theorem pm_int {i : Int} {j : Nat} {pos : Pos} : PM X W (.Constant (.int i) j pos) (mC (.int i)) := pm_c pe_int fun _ => .int i
theorem pm_bl {b : Bool} {j : Nat} {pos : Pos} : PM X W (.Constant (.bool b) j pos) (mC (.bool b)) := pm_c pe_bl fun _ => .bl b
theorem pm_non {j : Nat} {pos : Pos} : PM X W (.Constant .none j pos) (mC .none) := pm_c pe_non fun _ => .non
theorem pm_str {x : Str} {j : Nat} {pos : Pos} : PM X W (.Constant (.str x) j pos) (mC (.str x)) := pm_c pe_str fun _ => .str x
theorem pm_globI {x : Str} {i : Int} {t : Tok} {pos : Pos} (hg : Gl X x) (hm : X.mg x = some (.int i t)) (hd : (x == ("__debug__" : Str)) = false := by decide) : PM X W (.Name x pos) (mC (.int i)) :=
  pm_c (v := .int i) (pe_glob hg hm ⟨t, rfl⟩ hd) fun _ => .int i
theorem pm_globS {x : Str} {i : Str} {t : Tok} {pos : Pos} (hg : Gl X x) (hm : X.mg x = some (.str i t)) (hd : (x == ("__debug__" : Str)) = false := by decide) : PM X W (.Name x pos) (mC (.str i)) :=
  pm_c (v := .str i) (pe_glob hg hm ⟨t, rfl⟩ hd) fun _ => .str i

/-! ### operators -/
def opt {α : Type} (o : Option α) (f : α → Res Mv) : Res Mv := match o with | some z => f z | none => .bad
def mBin (b : Bi) (g : Sg → Mv → Mv → Option Nw) (ma mb : ME) : ME := fun ρ S => (ma ρ S).bind fun x S1 => (mb ρ S1).bind fun y S2 => opt (g S2 x y) fun z => bear b z S2
/-- an operator by values -/
def OpP (X : Cx) (f : Value → Value → Sem Value) (g : Sg → Mv → Mv → Option Nw) : Prop :=
  OpR X f fun v u H Q => ∃ ι S x y z, Rl X.K ι S H ∧ XV X.K ι H x v ∧ XV X.K ι H y u ∧ g S x y = some z ∧ Raw X.K ι H Q z
theorem bin_core {g : Sg → Mv → Mv → Option Nw} {ma mb : ME} {b : Bi} {σ : L2.St} {H : Hp} {Q : VK} (h : tG (XV X.K) X.K W (mBin b g ma mb) σ H Q) :
    tOp (fun v u H Q => ∃ ι S x y z, Rl X.K ι S H ∧ XV X.K ι H x v ∧ XV X.K ι H y u ∧ g S x y = some z ∧ Raw X.K ι H Q z) (tG (XV X.K) X.K W ma) (tG (XV X.K) X.K W mb) σ H (Qf b Q) := by
  obtain ⟨ι, S, ρ, hl, hr, h⟩ := h
  refine ⟨ι, S, ρ, hl, hr, step h fun x v ι1 H1 S1 s1 r1 hx h1 => ?_⟩
  refine ⟨ι1, S1, ρ, hl.mono s1, r1, step h1 fun y u ι2 H2 S2 s2 r2 hy h2 => ?_⟩
  unfold opt at h2
  cases e : g S2 x y with
  | none => rw [e] at h2; exact h2.elim
  | some z =>
    rw [e] at h2
    exact ⟨ι2, S2, x, y, z, r2, hx.mono s2, hy, e, bear_raw r2 h2⟩
theorem pm_bin {op : Operator} {a c : Expr} {g : Sg → Mv → Mv → Option Nw} {ma mc : ME} {pos : Pos} (b : Bi) (o : OpP X (binaryOp op) g) (ha : PM X W a ma) (hc : PM X W c mc) : PM X W (.BinOp a op c pos) (mBin b g ma mc) :=
  pe_imp (pe_b b (pe_op o ha hc)) fun σ H Q h => bin_core h
theorem pm_cmp {op : CmpOp} {a c : Expr} {g : Sg → Mv → Mv → Option Nw} {ma mc : ME} {pos : Pos} (o : OpP X (compareOp op) g) (hm : behindInMarks op c = false) (ha : PM X W a ma) (hc : PM X W c mc) : PM X W (.Compare a [op] [c] pos) (mBin .ref g ma mc) :=
  pe_imp (pe_b .ref (pe_cmpR o ha hc hm)) fun σ H Q h => bin_core h
/-- a value's truth as a result -/
def mTst (m : ME) : MT := fun ρ S => (m ρ S).bind fun x S1 => match x with | .d (.bool b) => .ok b S1 | _ => .bad
theorem pb_cmp {op : CmpOp} {a c : Expr} {g : Sg → Mv → Mv → Option Nw} {ma mc : ME} {pos : Pos} (o : OpP X (compareOp op) g) (hm : behindInMarks op c = false) (ha : PM X W a ma) (hc : PM X W c mc) : PB X W (.Compare a [op] [c] pos) (mTst (mBin .ref g ma mc)) := by
  refine pt_imp (pt_cmpR o ha hc hm) fun σ H Q ⟨ι, S, ρ, hl, hr, h⟩ => ?_
  refine bin_core (b := .ref) (Q := fun x H' => ∃ k, x = .bl k ∧ Q k H') ⟨ι, S, ρ, hl, hr, step h fun x v ι1 H1 S1 s1 r1 hx h1 => ?_⟩
  cases x with
  | d y =>
    cases y with
    | bool k => cases hx; exact ⟨k, rfl, h1 _ _ _ (Sub.refl _ _) r1 rfl⟩
    | _ => exact h1.elim
  | _ => exact h1.elim

/-! ### truth -/
def Mv.seq (S : Sg) : Mv → Option (Bool × List Mv)
  | .d (.list xs) => some (false, xs.map .d)
  | .d (.tuple xs) => some (true, xs.map .d)
  | .ref i => match S[i]? with | some (false, .lst xs) => some (false, xs) | some (false, .tup xs) => some (true, xs) | _ => none
  | .own i => match S[i]? with | some (true, .lst xs) => some (false, xs) | some (true, .tup xs) => some (true, xs) | _ => none
  | _ => none
theorem FDs.xcs {K : PySem.W.Frag} {ι : Io} {H : Hp} : ∀ {ds : List PyData} {vs : List V}, FDs K H ds vs → XCs K ι H (ds.map .d) vs
  | _, _, .nil => .nil
  | _, _, .cons h hs => .cons ⟨rfl, h⟩ (FDs.xcs hs)
theorem Mv.seq_ok {K : PySem.W.Frag} {ι : Io} {S : Sg} {H : Hp} (hr : Rl K ι S H) {x : Mv} {v : V} (hx : XV K ι H x v) {t : Bool} {xs : List Mv} (e : x.seq S = some (t, xs)) :
    ∃ a vs, v = .ref a ∧ (if t = true then SqT K H a vs else PlnL K H a vs) ∧ XCs K ι H xs vs := by
  have cellc : ∀ (b : Bool) (i : Nat) (a : Addr), ι[i]? = some (b, a) → (match S[i]? with | some (c, .lst xs) => if c = b then some (false, xs) else none | some (c, .tup xs) => if c = b then some (true, xs) else none | _ => none) = some (t, xs) →
      ∃ vs, (if t = true then SqT K H a vs else PlnL K H a vs) ∧ XCs K ι H xs vs := by
    intro b i a hi e
    cases q : S[i]? with
    | none => rw [q] at e; cases e
    | some p =>
      obtain ⟨c, o⟩ := p
      rw [q] at e
      cases o with
      | lst ys =>
        by_cases hc : c = b
        · subst hc
          simp at e
          obtain ⟨rfl, rfl⟩ := e
          obtain ⟨vs, h1, h2⟩ := hr.cell i c _ a q hi
          exact ⟨vs, .inl h1, h2⟩
        · simp [hc] at e
      | tup ys =>
        by_cases hc : c = b
        · subst hc
          simp at e
          obtain ⟨rfl, rfl⟩ := e
          obtain ⟨vs, h1, h2⟩ := hr.cell i c _ a q hi
          exact ⟨vs, .inl (.inl h1), h2⟩
        · simp [hc] at e
      | dct _ => cases e
      | ins _ _ => cases e
      | gone => cases e
  cases x with
  | d y =>
    cases y with
    | list ds =>
      cases hx with
      | lst h hs =>
        cases e
        exact ⟨_, _, rfl, .inr h, FDs.xcs hs⟩
    | tuple ds =>
      cases hx with
      | tup h hs =>
        cases e
        exact ⟨_, _, rfl, h, FDs.xcs hs⟩
    | _ => cases e
  | ref i =>
    obtain ⟨a, hi, rfl⟩ := hx
    obtain ⟨vs, h1, h2⟩ := cellc false i a hi (by
      simp only [Mv.seq] at e
      rw [← e]
      cases S[i]? with
      | none => rfl
      | some p => obtain ⟨c, o⟩ := p; cases o <;> cases c <;> rfl)
    exact ⟨a, vs, rfl, h1, h2⟩
  | own i =>
    obtain ⟨a, hi, rfl⟩ := hx
    obtain ⟨vs, h1, h2⟩ := cellc true i a hi (by
      simp only [Mv.seq] at e
      rw [← e]
      cases S[i]? with
      | none => rfl
      | some p => obtain ⟨c, o⟩ := p; cases o <;> cases c <;> rfl)
    exact ⟨a, vs, rfl, h1, h2⟩
  | _ => cases e
def Mv.truth (S : Sg) (x : Mv) : Option Bool :=
  match x with
  | .d .none => some false
  | .d (.bool b) => some b
  | .d (.int i) => some (i != 0)
  | .d (.str y) => if y.length ≤ sizeLine then some ((y.length : Int) != 0) else none
  | .d (.list xs) => some (!xs.isEmpty)
  | .d (.tuple xs) => some (!xs.isEmpty)
  | x => (x.seq S).map fun q => !q.2.isEmpty
theorem Paired.isEmpty {α β : Type} {F : α → β → Prop} {xs : List α} {ys : List β} (h : Paired F xs ys) : xs.isEmpty = ys.isEmpty := by
  cases h <;> rfl
theorem Mv.truth_ok {K : PySem.W.Frag} {ι : Io} {S : Sg} {H : Hp} (hr : Rl K ι S H) {x : Mv} {v : V} (hx : XV K ι H x v) {k : Bool} (e : x.truth S = some k) : TruV K v H k := by
  have sq : ∀ t xs, x.seq S = some (t, xs) → k = !xs.isEmpty → TruV K v H k := by
    intro t xs e1 e2
    obtain ⟨a, vs, rfl, h1, h2⟩ := Mv.seq_ok hr hx e1
    cases t with
    | true => exact .inr (.inl ⟨vs, h1, by rw [e2, Paired.isEmpty h2]⟩)
    | false => exact .inl ⟨vs, PlnL.sq h1, by rw [e2, Paired.isEmpty h2]⟩
  cases x with
  | d y =>
    cases y with
    | none => cases hx; cases e; rfl
    | bool b => cases hx; cases e; rfl
    | int i => cases hx; cases e; rfl
    | str z =>
      cases hx
      simp only [Mv.truth] at e
      by_cases hz : z.length ≤ sizeLine
      · rw [if_pos hz] at e; cases e; exact ⟨hz, rfl⟩
      · rw [if_neg hz] at e; cases e
    | list xs => exact sq _ _ rfl (by simp only [Mv.truth] at e; cases e; cases xs <;> rfl)
    | tuple xs => exact sq _ _ rfl (by simp only [Mv.truth] at e; cases e; cases xs <;> rfl)
    | dict _ => cases e
  | ref i =>
    simp only [Mv.truth, Option.map_eq_some_iff] at e
    obtain ⟨⟨t, xs⟩, e1, e2⟩ := e
    exact sq t xs e1 e2.symm
  | own i =>
    simp only [Mv.truth, Option.map_eq_some_iff] at e
    obtain ⟨⟨t, xs⟩, e1, e2⟩ := e
    exact sq t xs e1 e2.symm
  | _ => cases e
def mTruth (m : ME) : MT := fun ρ S => (m ρ S).bind fun x S1 => match x.truth S1 with | some k => .ok k S1 | none => .bad
theorem pb_of {e : Expr} {m : ME} (h : PM X W e m) (he : ∀ whole, isTrue e X.env whole = (do let v ← whole; standAt e.pos; holding [v] (truthy v)) := by intro _; rfl) : PB X W e (mTruth m) := by
  refine pt_imp (pt_truth h he) fun σ H Q ⟨ι, S, ρ, hl, hr, h⟩ => ?_
  refine ⟨ι, S, ρ, hl, hr, step h fun x v ι1 H1 S1 s1 r1 hx h1 => ?_⟩
  cases e : x.truth S1 with
  | none => simp only [e] at h1; exact h1.elim
  | some k =>
    simp only [e] at h1
    exact ⟨k, Mv.truth_ok r1 hx e, h1 _ _ _ (Sub.refl _ _) r1 rfl⟩
def mAndB (a b : MT) : MT := fun ρ S => (a ρ S).bind fun k S1 => if k = true then b ρ S1 else .ok false S1
def mOrB (a b : MT) : MT := fun ρ S => (a ρ S).bind fun k S1 => if k = true then .ok true S1 else b ρ S1
def mNotB (a : MT) : MT := fun ρ S => (a ρ S).bind fun k S1 => .ok (!k) S1
theorem pwb {e : Expr} {m : MT} (h : PWB X W e m) : PB X W e m := PW.pt h
theorem pw_andM {a b : Expr} {rest : List Expr} {ma mb : MT} {pos : Pos} (ha : PB X W a ma) (hb : PWB X W (.BoolOp .And (b :: rest) pos) mb) : PWB X W (.BoolOp .And (a :: b :: rest) pos) (mAndB ma mb) := by
  refine pw_imp (pw_and ha hb) fun σ H Q ⟨ι, S, ρ, hl, hr, h⟩ => ?_
  refine ⟨ι, S, ρ, hl, hr, step h fun x v ι1 H1 S1 s1 r1 hx h1 => ?_⟩
  cases hx
  cases x with
  | true => exact iteT ⟨ι1, S1, ρ, hl.mono s1, r1, by simpa using h1⟩
  | false => exact iteF ((show Post RB _ _ _ _ _ _ (.ok false S1) from by simpa using h1) _ _ _ (Sub.refl _ _) r1 rfl)
theorem pw_orM {a b : Expr} {rest : List Expr} {ma mb : MT} {pos : Pos} (ha : PB X W a ma) (hb : PWB X W (.BoolOp .Or (b :: rest) pos) mb) : PWB X W (.BoolOp .Or (a :: b :: rest) pos) (mOrB ma mb) := by
  refine pw_imp (pw_or ha hb) fun σ H Q ⟨ι, S, ρ, hl, hr, h⟩ => ?_
  refine ⟨ι, S, ρ, hl, hr, step h fun x v ι1 H1 S1 s1 r1 hx h1 => ?_⟩
  cases hx
  cases x with
  | true => exact iteT ((show Post RB _ _ _ _ _ _ (.ok true S1) from by simpa using h1) _ _ _ (Sub.refl _ _) r1 rfl)
  | false => exact iteF ⟨ι1, S1, ρ, hl.mono s1, r1, by simpa using h1⟩
theorem pw_andM1 {a : Expr} {ma : MT} {pos : Pos} (ha : PB X W a ma) : PWB X W (.BoolOp .And [a] pos) ma := pw_and1 ha
theorem pw_orM1 {a : Expr} {ma : MT} {pos : Pos} (ha : PB X W a ma) : PWB X W (.BoolOp .Or [a] pos) ma := pw_or1 ha
theorem pb_not {a : Expr} {ma : MT} {pos : Pos} (ha : PB X W a ma) : PB X W (.UnaryOp .Not a pos) (mNotB ma) := by
  refine pt_imp (pt_not ha) fun σ H Q ⟨ι, S, ρ, hl, hr, h⟩ => ?_
  refine ⟨ι, S, ρ, hl, hr, step h fun x v ι1 H1 S1 s1 r1 hx h1 => ?_⟩
  cases hx
  exact h1 _ _ _ (Sub.refl _ _) r1 rfl
/-- and, or, not as values -/
def mAnd (a b : ME) : ME := fun ρ S => (a ρ S).bind fun x S1 => match x.truth S1 with | some true => b ρ S1 | some false => .ok x S1 | none => .bad
def mOr (a b : ME) : ME := fun ρ S => (a ρ S).bind fun x S1 => match x.truth S1 with | some false => b ρ S1 | some true => .ok x S1 | none => .bad
def mNot (a : ME) : ME := fun ρ S => (a ρ S).bind fun x S1 => match x.truth S1 with | some k => .ok (.d (.bool (!k))) S1 | none => .bad
theorem pm_and {a b : Expr} {rest : List Expr} {ma mb : ME} {pos : Pos} (ha : PM X W a ma) (hb : PM X W (.BoolOp .And (b :: rest) pos) mb) : PM X W (.BoolOp .And (a :: b :: rest) pos) (mAnd ma mb) := by
  refine pe_imp (pe_andT ha hb) fun σ H Q ⟨ι, S, ρ, hl, hr, h⟩ => ?_
  refine ⟨ι, S, ρ, hl, hr, step h fun x v ι1 H1 S1 s1 r1 hx h1 => ?_⟩
  cases e : x.truth S1 with
  | none => simp only [e] at h1; exact h1.elim
  | some k =>
    simp only [e] at h1
    refine ⟨k, Mv.truth_ok r1 hx e, ?_⟩
    cases k with
    | true => exact iteT ⟨ι1, S1, ρ, hl.mono s1, r1, h1⟩
    | false => exact iteF (h1 _ _ _ (Sub.refl _ _) r1 hx)
theorem pm_or {a b : Expr} {rest : List Expr} {ma mb : ME} {pos : Pos} (ha : PM X W a ma) (hb : PM X W (.BoolOp .Or (b :: rest) pos) mb) : PM X W (.BoolOp .Or (a :: b :: rest) pos) (mOr ma mb) := by
  refine pe_imp (pe_orT ha hb) fun σ H Q ⟨ι, S, ρ, hl, hr, h⟩ => ?_
  refine ⟨ι, S, ρ, hl, hr, step h fun x v ι1 H1 S1 s1 r1 hx h1 => ?_⟩
  cases e : x.truth S1 with
  | none => simp only [e] at h1; exact h1.elim
  | some k =>
    simp only [e] at h1
    refine ⟨k, Mv.truth_ok r1 hx e, ?_⟩
    cases k with
    | true => exact iteT (h1 _ _ _ (Sub.refl _ _) r1 hx)
    | false => exact iteF ⟨ι1, S1, ρ, hl.mono s1, r1, h1⟩
theorem pm_one {op : BoolOp} {a : Expr} {ma : ME} {pos : Pos} (ha : PM X W a ma) : PM X W (.BoolOp op [a] pos) ma := pe_one ha
theorem pm_not {a : Expr} {ma : ME} {pos : Pos} (ha : PM X W a ma) : PM X W (.UnaryOp .Not a pos) (mNot ma) := by
  refine pe_imp (pe_notT ha) fun σ H Q ⟨ι, S, ρ, hl, hr, h⟩ => ?_
  refine ⟨ι, S, ρ, hl, hr, step h fun x v ι1 H1 S1 s1 r1 hx h1 => ?_⟩
  cases e : x.truth S1 with
  | none => simp only [e] at h1; exact h1.elim
  | some k =>
    simp only [e] at h1
    exact ⟨k, Mv.truth_ok r1 hx e, h1 _ _ _ (Sub.refl _ _) r1 (.bl _)⟩
def mIf (c : MT) (a b : ME) : ME := fun ρ S => (c ρ S).bind fun k S1 => if k = true then a ρ S1 else b ρ S1
theorem pm_if {c a b : Expr} {mc : MT} {ma mb : ME} {pos : Pos} (hc : PB X W c mc) (ha : PM X W a ma) (hb : PM X W b mb) : PM X W (.IfExp c a b pos) (mIf mc ma mb) := by
  refine pe_imp (pe_ifExp hc ha hb) fun σ H Q ⟨ι, S, ρ, hl, hr, h⟩ => ?_
  refine ⟨ι, S, ρ, hl, hr, step h fun x v ι1 H1 S1 s1 r1 hx h1 => ?_⟩
  cases hx
  cases x with
  | true => exact iteT ⟨ι1, S1, ρ, hl.mono s1, r1, by simpa using h1⟩
  | false => exact iteF ⟨ι1, S1, ρ, hl.mono s1, r1, by simpa using h1⟩

/-! ### argument lists, displays -/
def mNil : MA := fun _ S => .ok [] S
def mCons (a : ME) (r : MA) : MA := fun ρ S => (a ρ S).bind fun x S1 => (r ρ S1).bind fun xs S2 => .ok (x :: xs) S2
theorem pl_nil : PL X W [] mNil := pa_imp pa_nil fun σ H Q ⟨ι, S, ρ, hl, hr, h⟩ => h _ _ _ (Sub.refl _ _) hr .nil
theorem pl_cons {e : Expr} {es : List Expr} {m : ME} {ms : MA} (h : PM X W e m) (hs : PL X W es ms) (he : starEach (e :: es) X.env = (false, eval e X.env) :: starEach es X.env := by rfl) : PL X W (e :: es) (mCons m ms) := by
  refine pa_imp (pa_cons h hs he) fun σ H Q ⟨ι, S, ρ, hl, hr, h⟩ => ?_
  refine ⟨ι, S, ρ, hl, hr, step h fun x v ι1 H1 S1 s1 r1 hx h1 => ?_⟩
  refine ⟨ι1, S1, ρ, hl.mono s1, r1, step h1 fun y u ι2 H2 S2 s2 r2 hy h2 => ?_⟩
  exact h2 _ _ _ (Sub.refl _ _) r2 (.cons (hx.mono s2) hy)
theorem Paired_frees {K : PySem.W.Frag} {ι : Io} {H : Hp} {xs : List Mv} {vs : List V} (h : XVs K ι H xs vs) (e : frees xs = true) : XCs K ι H xs vs := by
  induction h with
  | nil => exact .nil
  | cons r t ih =>
    simp only [frees, List.all_cons, Bool.and_eq_true] at e
    exact .cons ⟨e.1, r⟩ (ih e.2)
def mDisp (b : Bi) (tup : Bool) (a : MA) : ME := fun ρ S => (a ρ S).bind fun xs S1 => if frees xs = true ∧ xs.length ≤ sizeLine then bear b (if tup = true then .tup xs else .lst xs) S1 else .bad
theorem pm_lst {es : List Expr} {ms : MA} {pos : Pos} (b : Bi) (h : PL X W es ms) : PM X W (.List es pos) (mDisp b false ms) := by
  refine pe_imp (pe_b b (pe_lst h)) fun σ H Q ⟨ι, S, ρ, hl, hr, h⟩ => ?_
  refine ⟨ι, S, ρ, hl, hr, step h fun x v ι1 H1 S1 s1 r1 hx h1 => ?_⟩
  by_cases hc : frees x = true ∧ x.length ≤ sizeLine
  · rw [if_pos hc] at h1
    exact ⟨by rw [← hx.length]; exact hc.2, fun p hp => bear_raw (n := .lst x) r1 h1 v p (Paired_frees hx hc.1) hp⟩
  · rw [if_neg hc] at h1; exact h1.elim
theorem pm_tup {es : List Expr} {x1 : Nat} {ms : MA} {pos : Pos} (h : PL X W es ms) : PM X W (.Tuple es x1 pos) (mDisp .ref true ms) := by
  refine pe_imp (pe_b .ref (pe_tup h)) fun σ H Q ⟨ι, S, ρ, hl, hr, h⟩ => ?_
  refine ⟨ι, S, ρ, hl, hr, step h fun x v ι1 H1 S1 s1 r1 hx h1 => ?_⟩
  by_cases hc : frees x = true ∧ x.length ≤ sizeLine
  · rw [if_pos hc] at h1
    exact ⟨by rw [← hx.length]; exact hc.2, fun p hp => bear_raw (n := .tup x) r1 h1 v p (Paired_frees hx hc.1) hp⟩
  · rw [if_neg hc] at h1; exact h1.elim
end
end MM
end
section
set_option Elab.async false
set_option linter.all false
set_option maxRecDepth 100000
set_option maxHeartbeats 4000000
set_option autoImplicit false
namespace MM
open PySem PySem.Spec PyProof.Rows L2

/-! ### statements -/
def PostS (K : PySem.W.Frag) (W : WX) (ι : Io) (H : Hp) (D : Ends) : RS → Prop
  | .nx ρ S => ∀ ι' H' σ', Sub ι H ι' H' → Rl K ι' S H' → LR K ι' H' ρ σ' → D.nx σ' H'
  | .rt x S => ∀ ι' H' v, Sub ι H ι' H' → Rl K ι' S H' → XV K ι' H' x v → D.rt v H'
  | .bk ρ S => ∀ ι' H' σ', Sub ι H ι' H' → Rl K ι' S H' → LR K ι' H' ρ σ' → D.bk σ' H'
  | .ct ρ S => ∀ ι' H' σ', Sub ι H ι' H' → Rl K ι' S H' → LR K ι' H' ρ σ' → D.ct σ' H'
  | .exc e ρ S => ∀ ι' H' d σ', Sub ι H ι' H' → Rl K ι' S H' → LR K ι' H' ρ σ' → ExR K ι' H' e d → W e.cls d σ' H'
  | .bad => False
def tS (K : PySem.W.Frag) (W : WX) (m : MS) : TS := fun D σ H => ∃ ι S ρ, LR K ι H ρ σ ∧ Rl K ι S H ∧ PostS K W ι H D (m ρ S)
def PMS (X : Cx) (W : WX) (st : Stmt) (m : MS) : Prop := PS X st (tS X.K W m)
def PMB (X : Cx) (W : WX) (st : List Stmt) (m : MS) : Prop := PSs X st (tS X.K W m)
def Res.go {α : Type} (r : Res α) (ρ : Rho) (f : α → Sg → RS) : RS := match r with | .ok x S => f x S | .exc e S => .exc e ρ S | .bad => .bad
section
variable {K : PySem.W.Frag} {W : WX} {ι ι1 : Io} {H H1 : Hp} {S : Sg} {ρ : Rho} {σ : L2.St} {D D' : Ends}
theorem PostS.sub {r : RS} (s : Sub ι H ι1 H1) (h : PostS K W ι H D r) : PostS K W ι1 H1 D r := by
  cases r with
  | nx ρ S => exact fun ι' H' v s' => h ι' H' v (s.trans s')
  | rt x S => exact fun ι' H' v s' => h ι' H' v (s.trans s')
  | bk ρ S => exact fun ι' H' v s' => h ι' H' v (s.trans s')
  | ct ρ S => exact fun ι' H' v s' => h ι' H' v (s.trans s')
  | exc e ρ S => exact fun ι' H' d v s' => h ι' H' d v (s.trans s')
  | bad => exact h
theorem stepS {α β : Type} {R : Io → Hp → α → β → Prop} {T : β → Hp → Prop} {r : Res α} {f : α → Sg → RS} (hp : PostS K W ι H D (r.go ρ f)) (hl : LR K ι H ρ σ)
    (k : ∀ x v ι1 H1 S1, Sub ι H ι1 H1 → Rl K ι1 S1 H1 → R ι1 H1 x v → PostS K W ι1 H1 D (f x S1) → T v H1) : Post R K W ι σ H T r := by
  cases r with
  | ok x S' => exact fun ι' H' v s r x' => k x v ι' H' S' s r x' (PostS.sub s hp)
  | exc e S' => exact fun ι' H' d s r x => hp ι' H' d σ s r (hl.mono s) x
  | bad => exact hp
end
/-- targets: names, tuples of them -/
abbrev MG := Sg → Mv → Rho → Option Rho
abbrev MGs := Sg → List Mv → Rho → Option Rho
def Off (ts : List Nat) (σ σ' : L2.St) : Prop := σ'.length = σ.length ∧ ∀ j, j ∉ ts → σ'[j]? = σ[j]?
theorem Off.refl (ts : List Nat) (σ : L2.St) : Off ts σ σ := ⟨rfl, fun _ _ => rfl⟩
def PMG (X : Cx) (ts : List Nat) (tg : Expr) (m : MG) : Prop := PG X tg fun v σ H Q => ∃ ι S ρ x ρ', LR X.K ι H ρ σ ∧ Rl X.K ι S H ∧ XV X.K ι H x v ∧ m S x ρ = some ρ' ∧ ∀ σ', LR X.K ι H ρ' σ' → Off ts σ σ' → Q σ' H
def PMGs (X : Cx) (ts : List Nat) (tg : List Expr) (m : MGs) : Prop := PGs X tg fun vs σ H Q => ∃ ι S ρ xs ρ', LR X.K ι H ρ σ ∧ Rl X.K ι S H ∧ XVs X.K ι H xs vs ∧ m S xs ρ = some ρ' ∧ ∀ σ', LR X.K ι H ρ' σ' → Off ts σ σ' → Q σ' H
theorem pg_imp {X : Cx} {e : Expr} {t t' : TG} (h : PG X e t) (i : ∀ v σ H Q, t' v σ H Q → t v σ H Q) : PG X e t' := ⟨fun pins s σ H v u Q I r q => h.run pins s σ H v u Q I r (i _ _ _ _ q)⟩
theorem pgs_imp {X : Cx} {e : List Expr} {t t' : TGs} (h : PGs X e t) (i : ∀ v σ H Q, t' v σ H Q → t v σ H Q) : PGs X e t' := ⟨fun pins s σ H v u Q I r q => h.run pins s σ H v u Q I r (i _ _ _ _ q)⟩
def mgName (i : Nat) : MG := fun _ x ρ => some (ρ.set i (some x))
def mgNil : MGs := fun _ xs ρ => match xs with | [] => some ρ | _ => none
def mgCons (g : MG) (r : MGs) : MGs := fun S xs ρ => match xs with | x :: t => (g S x ρ).bind fun ρ' => r S t ρ' | [] => none
def mgTup (n : Nat) (g : MGs) : MG := fun S x ρ => match x.seq S with | some (_, xs) => if xs.length = n then g S xs ρ else none | none => none
section
variable {X : Cx} {W : WX} {pos : Pos}
theorem pmg_name {i : Nat} {x : Str} (hN : X.N.Nodup) (hi : X.N[i]? = some x) (hx : Loc X.env.scope x) (hf : X.fn x = true ∨ X.env.scope.names.lookup x = some .local := by first | exact .inl rfl | exact .inr rfl | assumption) : PMG X [i] (.Name x pos) (mgName i) :=
  pg_imp (pg_name hN hi hx hf) fun v σ H Q ⟨ι, S, ρ, y, ρ', hl, hr, hx, e, h⟩ => by
    cases e
    exact h _ (hl.set i hx) ⟨List.length_set, fun j hj => List.getElem?_set_ne (fun z => hj (by simp [z]))⟩
theorem pmgs_nil : PMGs X [] [] mgNil := pgs_imp pgs_nil fun v σ H Q ⟨ι, S, ρ, xs, ρ', hl, hr, hx, e, h⟩ => by
  cases hx with
  | nil => cases e; exact ⟨rfl, h _ hl (Off.refl _ _)⟩
  | cons a b => cases e
theorem pmgs_cons {t1 t2 : List Nat} {e : Expr} {es : List Expr} {g : MG} {r : MGs} (h1 : PMG X t1 e g) (h2 : PMGs X t2 es r)
    (hs : (assignEach (e :: es) X.env).map (·.2) = assign e X.env :: (assignEach es X.env).map (·.2) := by rfl) : PMGs X (t1 ++ t2) (e :: es) (mgCons g r) :=
  pgs_imp (pgs_cons h1 h2 hs) fun v σ H Q ⟨ι, S, ρ, xs, ρ', hl, hr, hx, e, h⟩ => by
    cases hx with
    | nil => cases e
    | @cons a b l1 l2 rr t =>
      simp only [mgCons, Option.bind_eq_some_iff] at e
      obtain ⟨ρ1, e1, e2⟩ := e
      exact ⟨b, l2, rfl, ι, S, ρ, a, ρ1, hl, hr, rr, e1, fun σ1 hl1 o1 => ⟨ι, S, ρ1, l1, ρ', hl1, hr, t, e2, fun σ2 hl2 o2 => h σ2 hl2 ⟨o2.1.trans o1.1, fun j hj => (o2.2 j fun z => hj (List.mem_append_right _ z)).trans (o1.2 j fun z => hj (List.mem_append_left _ z))⟩⟩⟩
theorem pg_or {X : Cx} {tg : Expr} {t u : TG} (h : PG X tg t) (h' : PG X tg u) : PG X tg (fun v σ H Q => t v σ H Q ∨ u v σ H Q) := ⟨fun pins s σ H v w Q I r q => by
  rcases q with q | q
  · exact h.run pins s σ H v w Q I r q
  · exact h'.run pins s σ H v w Q I r q⟩
theorem pmg_tup {ts : List Nat} {es : List Expr} {k : Nat} {g : MGs} {n : Nat} (hc : X.calm = true) (h : PMGs X ts es g)
    (hn : (assignEach es X.env).length = n := by rfl) (hst : (assignEach es X.env).findIdx? (·.1) = none := by rfl) : PMG X ts (.Tuple es k pos) (mgTup n g) :=
  pg_imp (pg_or (pg_tup hc h hn hst) (pg_lst hc h hn hst)) fun v σ H Q ⟨ι, S, ρ, x, ρ', hl, hr, hx, e, q⟩ => by
    unfold mgTup at e
    cases e1 : x.seq S with
    | none => rw [e1] at e; cases e
    | some p =>
      obtain ⟨t, xs⟩ := p
      rw [e1] at e
      simp only at e
      by_cases hl2 : xs.length = n
      · rw [if_pos hl2] at e
        obtain ⟨a, vs, rfl, h1, h2⟩ := Mv.seq_ok hr hx e1
        cases t with
        | true => exact .inl ⟨a, vs, rfl, h1, by rw [← h2.length]; exact hl2, ι, S, ρ, xs, ρ', hl, hr, XCs.xv h2, e, q⟩
        | false => exact .inr ⟨a, vs, rfl, PlnL.sq h1, by rw [← h2.length]; exact hl2, ι, S, ρ, xs, ρ', hl, hr, XCs.xv h2, e, q⟩
      · rw [if_neg hl2] at e; cases e

/-! ### simple statements -/
def mSkip : MS := fun ρ S => .nx ρ S
def mBrk : MS := fun ρ S => .bk ρ S
def mCnt : MS := fun ρ S => .ct ρ S
def mExpr (m : ME) : MS := fun ρ S => (m ρ S).go ρ fun _ S1 => .nx ρ S1
def mAsg (m : ME) (g : MG) : MS := fun ρ S => (m ρ S).go ρ fun x S1 => match g S1 x ρ with | some ρ' => .nx ρ' S1 | none => .bad
def mRet (m : ME) : MS := fun ρ S => (m ρ S).go ρ fun x S1 => .rt x S1
def mRetN : MS := fun _ S => .rt (.d .none) S
def mIfS (c : MT) (a b : MS) : MS := fun ρ S => (c ρ S).go ρ fun k S1 => if k = true then a ρ S1 else b ρ S1
def mSeq (a b : MS) : MS := fun ρ S => match a ρ S with | .nx ρ' S' => b ρ' S' | r => r
theorem pms_pass : PMS X W (.Pass pos) mSkip := ps_imp ps_pass fun D σ H ⟨ι, S, ρ, hl, hr, h⟩ => h _ _ _ (Sub.refl _ _) hr hl
theorem pms_brk : PMS X W (.Break pos) mBrk := ps_imp ps_break fun D σ H ⟨ι, S, ρ, hl, hr, h⟩ => h _ _ _ (Sub.refl _ _) hr hl
theorem pms_cnt : PMS X W (.Continue pos) mCnt := ps_imp ps_continue fun D σ H ⟨ι, S, ρ, hl, hr, h⟩ => h _ _ _ (Sub.refl _ _) hr hl
theorem pms_expr {e : Expr} {m : ME} (h : PM X W e m) (hs : swapsWith e none pos.line X.env = pure false := by rfl) : PMS X W (.Expr e pos) (mExpr m) :=
  ps_imp (ps_expr h hs) fun D σ H ⟨ι, S, ρ, hl, hr, h⟩ => ⟨ι, S, ρ, hl, hr, stepS h hl fun x v ι1 H1 S1 s1 r1 hx h1 => h1 _ _ _ (Sub.refl _ _) r1 (hl.mono s1)⟩
theorem asg_core {ts : List Nat} {m : ME} {g : MG} {D : Ends} {σ : L2.St} {H : Hp} (h : tS X.K W (mAsg m g) D σ H) :
    tAsg (tG (XV X.K) X.K W m) (fun v σ H Q => ∃ ι S ρ x ρ', LR X.K ι H ρ σ ∧ Rl X.K ι S H ∧ XV X.K ι H x v ∧ g S x ρ = some ρ' ∧ ∀ σ', LR X.K ι H ρ' σ' → Off ts σ σ' → Q σ' H) D σ H := by
  obtain ⟨ι, S, ρ, hl, hr, h⟩ := h
  refine ⟨ι, S, ρ, hl, hr, stepS h hl fun x v ι1 H1 S1 s1 r1 hx h1 => ?_⟩
  cases e : g S1 x ρ with
  | none => simp only [e] at h1; exact h1.elim
  | some ρ' =>
    simp only [e] at h1
    exact ⟨ι1, S1, ρ, x, ρ', hl.mono s1, r1, hx, e, fun σ' l' _ => h1 _ _ _ (Sub.refl _ _) r1 l'⟩
theorem pms_asg {ts : List Nat} {tg e : Expr} {m : ME} {g : MG} (h : PM X W e m) (hg : PMG X ts tg g) (hs : swapsWithSole [tg] e pos.line X.env = pure false := by rfl) (hw : swappedStores [tg] e X.env = pure none := by rfl)
    (h1 : (assignEach [tg] X.env).map (·.2) = [assign tg X.env] := by rfl) : PMS X W (.Assign [tg] e pos) (mAsg m g) := ps_imp (ps_asg h hg hs hw h1) fun D σ H h => asg_core h
theorem pms_set {i : Nat} {x : Str} {e : Expr} {m : ME} {pos' : Pos} (hN : X.N.Nodup) (hi : X.N[i]? = some x) (hx : Loc X.env.scope x) (h : PM X W e m) (hs : swapsWith e (some (.Name x pos')) pos.line X.env = pure false := by rfl)
    (hf : X.fn x = true ∨ X.env.scope.names.lookup x = some .local := by first | exact .inl rfl | exact .inr rfl | assumption) : PMS X W (.Assign [.Name x pos'] e pos) (mAsg m (mgName i)) := by
  refine ps_imp (ps_set hN hi hx h hs hf) fun D σ H h => ?_
  obtain ⟨ι, S, ρ, hl, hr, h⟩ := h
  refine ⟨ι, S, ρ, hl, hr, stepS h hl fun x v ι1 H1 S1 s1 r1 hx h1 => ?_⟩
  exact h1 _ _ _ (Sub.refl _ _) r1 ((hl.mono s1).set i hx)
theorem pms_ret {e : Expr} {m : ME} (h : PM X W e m) : PMS X W (.Return (some e) pos) (mRet m) :=
  ps_imp (ps_ret h) fun D σ H ⟨ι, S, ρ, hl, hr, h⟩ => ⟨ι, S, ρ, hl, hr, stepS h hl fun x v ι1 H1 S1 s1 r1 hx h1 => h1 _ _ _ (Sub.refl _ _) r1 hx⟩
theorem pms_retN : PMS X W (.Return none pos) mRetN := ps_imp ps_retN fun D σ H ⟨ι, S, ρ, hl, hr, h⟩ => h _ _ _ (Sub.refl _ _) hr .non
theorem pmb_nil : PMB X W [] mSkip := pss_imp pss_nil fun D σ H ⟨ι, S, ρ, hl, hr, h⟩ => h _ _ _ (Sub.refl _ _) hr hl
theorem pmb_one {st : Stmt} {m : MS} (h : PMS X W st m) : PMB X W [st] m := pss_one h
theorem pmb_cons {st : Stmt} {rest : List Stmt} {a b : MS} (h1 : PMS X W st a) (h2 : PMB X W rest b) : PMB X W (st :: rest) (mSeq a b) := by
  refine pss_imp (pss_cons h1 h2) fun D σ H ⟨ι, S, ρ, hl, hr, h⟩ => ⟨ι, S, ρ, hl, hr, ?_⟩
  unfold mSeq at h
  cases e : a ρ S with
  | nx ρ' S' => rw [e] at h; exact fun ι' H' σ' s r l => ⟨ι', S', ρ', l, r, h.sub s⟩
  | rt x S' => rw [e] at h; exact h
  | bk x S' => rw [e] at h; exact h
  | ct x S' => rw [e] at h; exact h
  | exc x y S' => rw [e] at h; exact h
  | bad => rw [e] at h; exact h
theorem pms_if {c : Expr} {a b : List Stmt} {mc : MT} {ma mb : MS} (hc : PB X W c mc) (ha : PMB X W a ma) (hb : PMB X W b mb) : PMS X W (.If c a b pos) (mIfS mc ma mb) := by
  refine ps_imp (ps_if hc ha hb) fun D σ H ⟨ι, S, ρ, hl, hr, h⟩ => ?_
  refine ⟨ι, S, ρ, hl, hr, stepS h hl fun x v ι1 H1 S1 s1 r1 hx h1 => ?_⟩
  cases hx
  cases x with
  | true => exact iteT ⟨ι1, S1, ρ, hl.mono s1, r1, by simpa using h1⟩
  | false => exact iteF ⟨ι1, S1, ρ, hl.mono s1, r1, by simpa using h1⟩
end

/-! ### a frame's own list is frozen -/
def fz (x : Mv) (S : Sg) : Res Mv :=
  match x with
  | .own i => match S[i]? with
    | some (true, .lst xs) => match allD xs with | some ds => .ok (.d (.list ds)) (S.set i (true, .gone)) | none => .bad
    | _ => .bad
  | x => .ok x S
def mFz (m : ME) : ME := fun ρ S => (m ρ S).bind fz
theorem pm_fz {X : Cx} {W : WX} {e : Expr} {m : ME} (h : PM X W e m) : PM X W e (mFz m) := by
  refine pe_imp (pe_b .frz h) fun σ H Q ⟨ι, S, ρ, hl, hr, h⟩ => ⟨ι, S, ρ, hl, hr, step h fun x v ι1 H1 S1 s1 r1 hx h1 => ?_⟩
  cases x with
  | own i =>
    obtain ⟨a, hi, rfl⟩ := hx
    simp only [fz] at h1
    cases e : S1[i]? with
    | none => simp only [e] at h1; exact h1.elim
    | some p =>
      obtain ⟨b, o⟩ := p
      simp only [e] at h1
      cases b with
      | false => exact h1.elim
      | true =>
        cases o with
        | lst xs =>
          simp only at h1
          cases e2 : allD xs with
          | none => simp only [e2] at h1; exact h1.elim
          | some ds =>
            simp only [e2] at h1
            obtain ⟨vs, hp, hx⟩ := r1.cell i true _ a e hi
            refine .inr ⟨a, _, rfl, hp, trivial, fun o => ?_⟩
            obtain ⟨r2, s2⟩ := r1.put (u := .frz o (.lst vs)) (o := .gone) ⟨_, e⟩ hi hp trivial trivial
            exact h1 _ _ _ s2 r2 (.lst (.inl ⟨o, upd_same⟩) (FDs.mono s2.grow (allD_FDs hx e2)))
        | _ => exact h1.elim
  | _ => exact .inl (h1 _ _ _ (Sub.refl _ _) r1 hx)

/-! ### defs -/
def trim (n : Nat) (S : Sg) : Sg := if (S.drop n).all (·.1) = true then S.take n else S
def exFree (e : Ex) : Bool := match e.fs with | none => true | some l => l.all (·.2.free)
def fin (n : Nat) : RS → Res Mv
  | .nx _ S => .ok (.d .none) (trim n S)
  | .rt x S => if x.free = true then .ok x (trim n S) else .bad
  | .exc e _ S => if exFree e = true then .exc e (trim n S) else .bad
  | _ => .bad
def fnM (n : Nat) (m : MS) : List Mv → Sg → Res Mv := fun xs S => fin S.length (m (xs.map some ++ List.replicate (n - xs.length) none) S)
def spM (K : PySem.W.Frag) (n : Nat) (m : List Mv → Sg → Res Mv) : Sp := fun vs H Q E => ∃ ι S xs, XCs K ι H xs vs ∧ xs.length = n ∧ Rl K ι S H ∧ Post (XV K) K (fun c d _ H => E c d H) ι [] H Q (m xs S)
/-- a def's promise, called where no repr runs -/
structure FnM (P : Program) (w : World) (K : PySem.W.Frag) (mg : Str → Option Value) (base : Heap) (k : Nat) (f : Addr) (fd : FuncData) (ps : List Str) (m : List Mv → Sg → Res Mv) : Prop where
  run : ∀ (A : Around) (outer : List Env) (s : Shared) (H : Hp) (args : Args) (us : List Value) (vs : List V) (Q : VK) (E : XK), Room k A → A.guards = some [] → Env0 P w K mg base A outer s H → BindsTo s fd args (ps.zip us) → Vals vs us →
    spM K ps.length m vs H Q E → codeAny (model P w) A (.call (.ref f) args) (CR (L2.CX P w) outer P w H s Q E) s
theorem FnM.mono {P : Program} {w : World} {K : PySem.W.Frag} {mg : Str → Option Value} {base : Heap} {j k : Nat} {f : Addr} {fd : FuncData} {ps : List Str} {m : List Mv → Sg → Res Mv} (F : FnM P w K mg base j f fd ps m) (h : j ≤ k) : FnM P w K mg base k f fd ps m :=
  ⟨fun A outer s H args us vs Q E hr => F.run A outer s H args us vs Q E (hr.mono h)⟩
section
variable {K : PySem.W.Frag} {ι ι1 : Io} {H H1 : Hp} {S S1 : Sg}
theorem trim_ok (hr : Rl K ι S H) (s : Sub ι H ι1 H1) (r1 : Rl K ι1 S1 H1) : ∃ ι2, Sub ι H ι2 H1 ∧ Rl K ι2 (trim S.length S1) H1 ∧ (∀ x v, x.free = true → XV K ι1 H1 x v → XV K ι2 H1 x v) := by
  unfold trim
  by_cases c : (S1.drop S.length).all (·.1) = true
  · rw [if_pos c]
    obtain ⟨t, rfl, _⟩ := s.pre
    have hl : S.length ≤ S1.length := by
      have := r1.len
      rw [List.length_append, hr.len] at this
      omega
    have e : S1.take S.length ++ S1.drop S.length = S1 := List.take_append_drop _ _
    have hlen : ι.length = (S1.take S.length).length := by rw [List.length_take, hr.len]; omega
    have hT : ∀ p ∈ S1.drop S.length, p.1 = true := fun p hp => List.all_eq_true.mp c p hp
    rw [← e] at r1
    have r2 := Rl.trim r1 hlen hT
    refine ⟨ι, Sub.same s.grow s.keep s.live, r2, fun x v hf hx => XV.trim (t := t) (fun p hp => ?_) hf hx⟩
    have hf2 : ι.map (·.1) = (S1.take S.length).map (·.1) ∧ t.map (·.1) = (S1.drop S.length).map (·.1) := by
      have e := r1.flag
      rw [List.map_append, List.map_append] at e
      exact List.append_inj e (by simpa using hlen)
    have : p.1 ∈ (S1.drop S.length).map (·.1) := by rw [← hf2.2]; exact List.mem_map_of_mem hp
    obtain ⟨q, hq, e⟩ := List.mem_map.mp this
    rw [← e]; exact hT q hq
  · rw [if_neg c]
    exact ⟨ι1, s, r1, fun _ _ _ h => h⟩
theorem lr_start {xs : List Mv} {vs : List V} (h : XCs K ι H xs vs) (n : Nat) : LR K ι H (xs.map some ++ List.replicate (n - xs.length) none) (vs.map some ++ List.replicate (n - vs.length) none) := by
  have hl := h.length
  refine ⟨by simp [hl], fun i x e => ?_⟩
  by_cases hi : i < xs.length
  · rw [List.getElem?_append_left (by simpa using hi), List.getElem?_map] at e
    cases q : xs[i]? with
    | none => rw [q] at e; cases e
    | some y =>
      rw [q] at e
      cases e
      have get : ∀ {xs : List Mv} {vs : List V} {i : Nat} {x : Mv}, XCs K ι H xs vs → xs[i]? = some x → ∃ v, vs[i]? = some v ∧ XC K ι H x v := by
        intro xs vs i x h
        induction h generalizing i with
        | nil => intro e; cases e
        | cons r t ih =>
          cases i with
          | zero => intro e; cases e; exact ⟨_, rfl, r⟩
          | succ i => intro e; exact ih e
      obtain ⟨v, e1, r⟩ := get h q
      refine ⟨v, ?_, r.2⟩
      rw [List.getElem?_append_left (by simpa [← hl] using hi), List.getElem?_map, e1]; rfl
  · rw [List.getElem?_append_right (by simpa using hi)] at e
    have := List.mem_of_getElem? e
    have := (List.mem_replicate.mp this).2
    cases this
end
section
variable {P : Program} {w : World} {K : PySem.W.Frag} {mg : Str → Option Value} {base : Heap}
/-- from a body's mirror to the frame's end -/
theorem body_end {X : Cx} {k n : Nat} {m : MS} {xs : List Mv} {vs : List V} {ι : Io} {S : Sg} {H : Hp} {Q : VK} {E : XK} (hx : XCs X.K ι H xs vs) (hR : Rl X.K ι S H)
    (h : Post (XV X.K) X.K (fun c d _ H => E c d H) ι [] H Q (fnM n m xs S)) : tS X.K (fun c d _ H => E c d H) m { nx := fun _ H' => Q .non H', rt := Q } (vs.map some ++ List.replicate (n - vs.length) none) H := by
  refine ⟨ι, S, _, lr_start hx n, hR, ?_⟩
  unfold fnM at h
  generalize (xs.map some ++ List.replicate (n - xs.length) none) = ρ at h ⊢
  cases e : m ρ S with
  | nx ρ' S' =>
    rw [e] at h
    intro ι1 H1 σ' s1 r1 l1
    obtain ⟨ι2, s2, r2, _⟩ := trim_ok hR s1 r1
    exact h _ _ _ s2 r2 .non
  | rt y S' =>
    rw [e] at h
    intro ι1 H1 v s1 r1 hy
    simp only [fin] at h
    by_cases c : y.free = true
    · rw [if_pos c] at h
      obtain ⟨ι2, s2, r2, tr⟩ := trim_ok hR s1 r1
      exact h _ _ _ s2 r2 (tr _ _ c hy)
    · rw [if_neg c] at h; exact h.elim
  | bk ρ' S' => rw [e] at h; exact h.elim
  | ct ρ' S' => rw [e] at h; exact h.elim
  | exc ex ρ' S' =>
    rw [e] at h
    intro ι1 H1 d σ' s1 r1 l1 hy
    simp only [fin] at h
    by_cases c : exFree ex = true
    · rw [if_pos c] at h
      obtain ⟨ι2, s2, r2, tr⟩ := trim_ok hR s1 r1
      refine h _ _ _ s2 r2 ?_
      unfold ExR at hy ⊢
      unfold exFree at c
      cases e3 : ex.fs with
      | none => trivial
      | some l =>
        rw [e3] at hy c
        obtain ⟨dd, kv, h1, h2, h3⟩ := hy
        refine ⟨dd, kv, h1, h2, ?_⟩
        clear e3 h1 h2 e h
        simp only at c
        induction h3 with
        | nil => exact .nil
        | cons r t ih =>
          simp only [List.all_cons, Bool.and_eq_true] at c
          exact .cons ⟨r.1, tr _ _ c.1 r.2⟩ (ih c.2)
    · rw [if_neg c] at h; exact h.elim
  | bad => rw [e] at h; exact h.elim
theorem fn_m {x qual : Str} {st : Stmt} {f : Addr} {fd : FuncData} {N ps : List Str} {k : Nat} {m : MS} (F : Fun K x qual st f fd) (Sc : FnScope N ps (defScope st))
    (hb : ∀ (cdv : Value) (A : Around) (outer : List Env) (s : Shared) (H : Hp) (E : XK), Room k (A.deeper (envOfC qual (defScope st) s.heap.objs.size f cdv)) → (A.deeper (envOfC qual (defScope st) s.heap.objs.size f cdv)).guards = some [] →
      Takes (cxOf (L2.CX P w) P w K mg base N qual (defScope st) f cdv A outer s H E) (fun c d _ H => E c d H) →
      PassesOwn (model P w) (A.deeper (envOfC qual (defScope st) s.heap.objs.size f cdv)) (envOfC qual (defScope st) s.heap.objs.size f cdv) (cxOf (L2.CX P w) P w K mg base N qual (defScope st) f cdv A outer s H E).xe →
      PMB (cxOf (L2.CX P w) P w K mg base N qual (defScope st) f cdv A outer s H E) (fun c d _ H => E c d H) (defBody st) m) : FnM P w K mg base (k + 1) f fd ps (fnM N.length m) := by
  obtain ⟨oc, od, kV, doc, pm, an, cdv, ct, osl, rfl, lk, hcd⟩ := F.ex
  refine ⟨fun A outer s H args us vs Q E room gds ent bnd rel want => ?_⟩
  obtain ⟨ι, S, xs, hx, hlen, hR, want⟩ := want
  have hlv : vs.length = ps.length := by rw [← hx.length]; exact hlen
  have kin : K.In s.heap := ent.mod.kin.keeps fun b o e => (ent.bs b o e).1
  have lim : s.heap.NoLimit := ent.mod.nolimit.keeps fun b o e => (ent.bs b o e).1
  have places : ∀ y ∈ ps.zip us, (defScope st).names.lookup y.1 = some .local ∨ ((defScope st).names.lookup y.1 = some .cell ∧ ((cellsFrom (s.heap.objs.size + 1) (defScope st).names []).lookup y.1).isSome = true) := by
    rintro ⟨n, v⟩ hy
    rcases Sc.par n (List.of_mem_zip hy).1 with q | q
    · exact .inl q
    · exact .inr ⟨q, PySem.W.cellsFrom_some _ _ _ (.inl q)⟩
  refine codeAny_call_function room.depth (kin _ _ lk) rfl Sc.co Sc.gen rfl (PySem.W.codeRec_of kin hcd) (bnd _ _ _ _ ?_)
  refine wpAny_newFunctionEnv_cells Sc.kind places fun env he s1 begun => ?_
  subst he
  refine ⟨lim.keeps begun.toInCall.keep, codeAny_func ?_⟩
  have I := inv_start (CX := L2.CX P w) (E := E) (cd := cdv) (qual := qual) (f := f) Sc room.hd ent hlv rel begun
  have body := hb cdv A outer s H E (room.deeper _) gds (takes_of (X := cxOf (L2.CX P w) P w K mg base N qual (defScope st) f cdv A outer s H E) rfl rfl rfl rfl) (passes_of (X := cxOf (L2.CX P w) P w K mg base N qual (defScope st) f cdv A outer s H E) rfl)
  refine wpAny_mono (body.run [] s1 (start N vs) H _ I (body_end (X := cxOf (L2.CX P w) P w K mg base N qual (defScope st) f cdv A outer s H E) (k := k) hx hR want)) (fun fl s' got => ?_) fun e s' got => got
  cases fl with
  | ret u => exact let ⟨v, _, H', J, rv, q⟩ := got; ⟨v, H', J.os, J.bare, J.base, J.hok, rv, q⟩
  | next => exact let ⟨_, H', J, q⟩ := got; ⟨V.non, H', J.os, J.bare, J.base, J.hok, rfl, q⟩
  | brk => exact let ⟨_, _, _, q⟩ := got; False.elim q
  | cont => exact let ⟨_, _, _, q⟩ := got; False.elim q
end
/-- calls of a def by its name -/
def mCall (n : Nat) (f : List Mv → Sg → Res Mv) (ds : List Mv) (a : MA) : ME := fun ρ S => (a ρ S).bind fun xs S1 => if frees xs = true ∧ (xs ++ ds).length = n then f (xs ++ ds) S1 else .bad
section
variable {X : Cx} {W : WX} {k : Nat} {f : Addr} {fd : FuncData} {ps : List Str} {m : List Mv → Sg → Res Mv} {x : Str} {p pos : Pos} {e : Expr} {es : List Expr} {ms : MA} {ds : List Mv} {dvs : List V} {dus : List Value}
theorem Paired.append {α β : Type} {F : α → β → Prop} {xs xs' : List α} {ys ys' : List β} (h : Paired F xs ys) (h' : Paired F xs' ys') : Paired F (xs ++ xs') (ys ++ ys') := by
  induction h with
  | nil => exact h'
  | cons r t ih => exact .cons r ih
/-- the callee runs -/
theorem run_m {pins : List (Addr × Obj)} {σ : L2.St} {H : Hp} {s : Shared} {Q : VK} {us : List Value} {vs : List V} {args : Args} (F : FnM X.prog X.w X.K X.mg X.base k f fd ps m) (hr : Room k X.A) (gds : X.A.guards = some []) (tk : Takes X W) (hb : BindsTo s fd args (ps.zip us))
    (I : Inv X pins σ H s) (r : Vals vs us) (h : spM X.K ps.length m vs H Q (WE W σ)) : codeAny (model X.prog X.w) X.A (.call (.ref f) args) (fun r s' => match r with | .ok (.ret u) => EP X pins σ Q u s' | .ok _ => False | .error e => X.xe e s') s := by
  refine codeAny_mono (F.run X.A X.stack s H args us vs Q (WE W σ) hr gds I.env0 hb r h) fun res s' got => ?_
  cases res with
  | error e => exact passAt tk σ pins H s e s' I got
  | ok fl =>
    cases fl with
    | ret u => exact I.after got
    | next => exact got
    | brk => exact got
    | cont => exact got
theorem pm_call {n : Nat} (F : FnM X.prog X.w X.K X.mg X.base k f fd ps m) (hr : Room k X.A) (gds : X.A.guards = some []) (tk : Takes X W) (hg : Gl X x) (hm : X.mg x = some (.ref f)) (hk : PySem.W.keepIn X.K (.ref f) = true) (hb : L2.Binds X.K fd ps dus) (hd : Vals dvs dus)
    (hds : ∀ ι H, XCs X.K ι H ds dvs) (ha : PL X W (e :: es) ms) (hn : ps.length = n := by rfl) (hdb : (x == ("__debug__" : Str)) = false := by decide) (he : starEach (e :: es) X.env = (false, eval e X.env) :: starEach es X.env := by rfl) (hpl : (backTo pos (starEach es X.env)).any (·.1) = false := by rfl) :
    PM X W (.Call (.Name x p) (e :: es) [] pos) (mCall n m ds ms) := by
  subst hn
  refine ⟨fun pins s σ H Q I ⟨ι, S, ρ, hl, hR, h⟩ => ?_⟩
  refine wpAny_Call_Name_kw (ld_glob I hg hm ?_ hdb)
  have want : tG (XVs X.K) X.K W ms σ H fun vs H1 => spM X.K ps.length m (vs ++ dvs) H1 Q (WE W σ) := ⟨ι, S, ρ, hl, hR, step h fun xs vs ι1 H1 S1 s1 r1 hx h1 => by
    by_cases c : frees xs = true ∧ (xs ++ ds).length = ps.length
    · rw [if_pos c] at h1
      refine ⟨ι1, S1, xs ++ ds, Paired.append (Paired_frees hx c.1) (hds _ _), c.2, r1, ?_⟩
      cases e : m (xs ++ ds) S1 with
      | ok y S' => rw [e] at h1; exact h1
      | exc y S' => rw [e] at h1; exact h1
      | bad => rw [e] at h1; exact h1
    · rw [if_neg c] at h1; exact h1.elim⟩
  refine PySem.W.callWith_K (h₀ := X.base) I.ok.mod.kin hk (thn (ha.run pos pins s σ H _ I want) fun us s1 ⟨vs, H1, I1, r, q⟩ => ⟨I1.kIn, ?_⟩) he hpl
  have rr : Vals (vs ++ dvs) (us ++ dus) := r.append hd
  have hlen : (us ++ dus).length = ps.length := by
    obtain ⟨_, _, xs, hx, hl2, _⟩ := id q
    rw [← rr.length, ← hx.length]; exact hl2
  refine wpAny_call (codeAny_mono (run_m F hr gds tk (hb s1 us I1.kIn hlen) I1 rr q) fun res s' got => ?_)
  cases res with
  | error e => exact got
  | ok fl => cases fl <;> exact got
end
end MM
end
section
set_option Elab.async false
set_option linter.all false
set_option maxRecDepth 100000
set_option maxHeartbeats 4000000
set_option autoImplicit false
namespace MM
open PySem PySem.Spec PyProof.Rows L2

/-! ### while -/
def mWhile (c : MT) (b : MS) : Nat → MS
  | 0 => fun _ _ => .bad
  | n + 1 => fun ρ S => (c ρ S).go ρ fun k S1 => if k = true then (match b ρ S1 with
      | .nx ρ' S' => mWhile c b n ρ' S' | .ct ρ' S' => mWhile c b n ρ' S' | .bk ρ' S' => .nx ρ' S' | r => r) else .nx ρ S1
section
variable {X : Cx} {W : WX} {pos : Pos}
theorem pms_while {c : Expr} {body : List Stmt} {mc : MT} {mb : MS} (n : Nat) (hp : PassesOwn (model X.prog X.w) X.A X.env X.xe) (hc : PB X W c mc) (hb : PMB X W body mb) : PMS X W (.While c body [] pos) (mWhile mc mb n) := by
  refine ps_imp (ps_while hp hc hb) fun D σ H ⟨ι, S, ρ, hl, hr, h⟩ => ?_
  refine ⟨fun n σ H => ∃ ι S ρ, LR X.K ι H ρ σ ∧ Rl X.K ι S H ∧ PostS X.K W ι H D (mWhile mc mb n ρ S), ⟨n, ι, S, ρ, hl, hr, h⟩, fun n σ H hW => ?_⟩
  obtain ⟨ι, S, ρ, hl, hr, h⟩ := hW
  cases n with
  | zero => exact h.elim
  | succ n =>
    refine ⟨ι, S, ρ, hl, hr, stepS h hl fun x v ι1 H1 S1 s1 r1 hx h1 => ?_⟩
    cases hx
    cases x with
    | false => exact iteF ((show PostS _ _ _ _ _ (.nx ρ S1) by simpa using h1) _ _ _ (Sub.refl _ _) r1 (hl.mono s1))
    | true =>
      refine iteT ⟨fun σ H => ∃ ι S ρ, LR X.K ι H ρ σ ∧ Rl X.K ι S H ∧ PostS X.K W ι H D (mWhile mc mb n ρ S), fun σ' H' q => ⟨n, Nat.lt_succ_self n, q⟩, ι1, S1, ρ, hl.mono s1, r1, ?_⟩
      rw [if_pos rfl] at h1
      cases e : mb ρ S1 with
      | nx ρ' S' => rw [e] at h1; exact fun ι' H' σ' s r l => ⟨ι', S', ρ', l, r, h1.sub s⟩
      | ct ρ' S' => rw [e] at h1; exact fun ι' H' σ' s r l => ⟨ι', S', ρ', l, r, h1.sub s⟩
      | bk ρ' S' => rw [e] at h1; exact h1
      | rt ρ' S' => rw [e] at h1; exact h1
      | exc _ ρ' S' => rw [e] at h1; exact h1
      | bad => rw [e] at h1; exact h1

/-! ### what is walked -/
def ItM (K : PySem.W.Frag) (ι : Io) (H : Hp) (xs : List Mv) (J : It) : Prop :=
  ∀ ι1 H1 S1, Sub ι H ι1 H1 → Rl K ι1 S1 H1 → ∀ i, (∀ x, xs[i]? = some x → J.go i H1 ∧ ∀ v H2, J.yld i H1 v H2 → Rl K ι1 S1 H2 ∧ Sub ι1 H1 ι1 H2 ∧ XV K ι1 H2 x v) ∧ (xs.length ≤ i → J.stop i H1)
def PIM (X : Cx) (W : WX) (tg iter : Expr) (m : MA) : Prop := PI X tg iter (tG (ItM X.K) X.K W m)
theorem pi_imp {tg e : Expr} {t t' : TI} (h : PI X tg e t) (i : ∀ σ H Q, t' σ H Q → t σ H Q) : PI X tg e t' := ⟨fun pins s σ H Q I q => h.run pins s σ H Q I (i _ _ _ q)⟩
theorem pi_or {tg e : Expr} {t t' : TI} (h : PI X tg e t) (h' : PI X tg e t') : PI X tg e (fun σ H Q => t σ H Q ∨ t' σ H Q) := ⟨fun pins s σ H Q I q => by
  rcases q with q | q
  · exact h.run pins s σ H Q I q
  · exact h'.run pins s σ H Q I q⟩
theorem ItM.mono {K : PySem.W.Frag} {ι ι1 : Io} {H H1 : Hp} {xs : List Mv} {J : It} (h : ItM K ι H xs J) (s : Sub ι H ι1 H1) : ItM K ι1 H1 xs J := fun ι2 H2 S2 s2 => h ι2 H2 S2 (s.trans s2)
theorem Paired.at {α β : Type} {F : α → β → Prop} {xs : List α} {ys : List β} (h : Paired F xs ys) {i : Nat} {x : α} (e : xs[i]? = some x) : ∃ y, ys[i]? = some y ∧ F x y := by
  induction h generalizing i with
  | nil => cases e
  | cons r t ih =>
    cases i with
    | zero => cases e; exact ⟨_, rfl, r⟩
    | succ i => exact ih e
/-- a text's signs -/
def signs (z : Str) : List Mv := z.cps.toList.map fun c => .d (.str ⟨#[c]⟩)
theorem itm_lst {K : PySem.W.Frag} {ι : Io} {H : Hp} {a : Addr} {vs : List V} {ds : List PyData} (h : FzL K H a vs) (hs : FDs K H ds vs) : ItM K ι H (ds.map .d) (Itl K a) := by
  intro ι1 H1 S1 s r i
  have h1 := (h.mono s.grow).sq
  have p : XCs K ι1 H1 (ds.map .d) vs := FDs.xcs (FDs.mono s.grow hs)
  refine ⟨fun x e => ?_, fun e => ⟨vs, h1, by rw [← p.length]; exact e⟩⟩
  obtain ⟨v, e1, r1⟩ := Paired.at p e
  refine ⟨⟨vs, v, h1, e1⟩, fun v' H2 ⟨e2, q⟩ => ?_⟩
  have e3 := q vs h1
  rw [e1] at e3
  cases e3
  rw [e2]
  exact ⟨r, Sub.refl _ _, r1.2⟩
theorem itm_tup {K : PySem.W.Frag} {ι : Io} {H : Hp} {a : Addr} {vs : List V} {ds : List PyData} (h : SqT K H a vs) (hs : FDs K H ds vs) : ItM K ι H (ds.map .d) (Itt K a) := by
  intro ι1 H1 S1 s r i
  have h1 := SqT_mono s.grow h
  have p : XCs K ι1 H1 (ds.map .d) vs := FDs.xcs (FDs.mono s.grow hs)
  refine ⟨fun x e => ?_, fun e => ⟨vs, h1, by rw [← p.length]; exact e⟩⟩
  obtain ⟨v, e1, r1⟩ := Paired.at p e
  refine ⟨⟨vs, v, h1, e1⟩, fun v' H2 ⟨e2, q⟩ => ?_⟩
  have e3 := q vs h1
  rw [e1] at e3
  cases e3
  rw [e2]
  exact ⟨r, Sub.refl _ _, r1.2⟩
theorem itm_str {K : PySem.W.Frag} {ι : Io} {H : Hp} (z : Str) : ItM K ι H (signs z) (Its z) := by
  intro ι1 H1 S1 s r i
  have hz : (signs z).length = z.cps.size := by simp [signs]
  refine ⟨fun x e => ?_, fun e => by show z.cps.size ≤ i; rw [← hz]; exact e⟩
  have hi : i < z.cps.size := by rw [← hz]; exact (List.getElem?_eq_some_iff.mp e).1
  refine ⟨hi, fun v' H2 ⟨e2, c, e3, e4⟩ => ?_⟩
  rw [e2, e4]
  refine ⟨r, Sub.refl _ _, ?_⟩
  unfold signs at e
  rw [List.getElem?_map, Array.getElem?_toList, e3] at e
  cases e
  exact .str _
def Mv.items (x : Mv) : Option (List Mv) := match x with
  | .d (.list xs) => some (xs.map .d)
  | .d (.tuple xs) => some (xs.map .d)
  | .d (.str z) => some (signs z)
  | _ => none
def mIter (m : ME) : MA := fun ρ S => (m ρ S).bind fun x S1 => match x.items with | some xs => .ok xs S1 | none => .bad
theorem pim_seq {tg e : Expr} {m : ME} (h : PM X W e m) : PIM X W tg e (mIter m) := by
  refine pi_imp (pi_or (pi_list h) (pi_or (pi_tup h) (pi_str h))) fun σ H R ⟨ι, S, ρ, hl, hr, h⟩ => ?_
  cases e : m ρ S with
  | bad => unfold mIter at h; rw [e] at h; exact h.elim
  | exc ex S' =>
    unfold mIter at h; rw [e] at h
    exact .inl ⟨ι, S, ρ, hl, hr, by rw [e]; exact h⟩
  | ok x S1 =>
    have h0 := h
    unfold mIter at h; rw [e] at h
    cases x with
    | d y =>
      cases y with
      | list ds =>
        refine .inl ⟨ι, S, ρ, hl, hr, ?_⟩
        rw [e]
        intro ι1 H1 v s1 r1 hx
        cases hx with
        | lst hf hs => exact ⟨_, rfl, ⟨_, hf.sq⟩, h _ _ _ s1 r1 (itm_lst hf hs)⟩
      | tuple ds =>
        refine .inr (.inl ⟨ι, S, ρ, hl, hr, ?_⟩)
        rw [e]
        intro ι1 H1 v s1 r1 hx
        cases hx with
        | tup hf hs => exact ⟨_, rfl, ⟨_, hf⟩, h _ _ _ s1 r1 (itm_tup hf hs)⟩
      | str z =>
        refine .inr (.inr ⟨ι, S, ρ, hl, hr, ?_⟩)
        rw [e]
        intro ι1 H1 v s1 r1 hx
        cases hx with
        | str z => exact ⟨z, rfl, h _ _ _ s1 r1 (itm_str z)⟩
      | _ => exact h.elim
    | _ => exact h.elim
def rangeL (lo : Int) (n : Nat) : List Mv := (List.range n).map fun i : Nat => .d (.int (lo + i))
theorem itm_rng {K : PySem.W.Frag} {ι : Io} {H : Hp} (lo : Int) (n : Nat) : ItM K ι H (rangeL lo n) (Itr lo n) := by
  intro ι1 H1 S1 s r i
  have hz : (rangeL lo n).length = n := by simp [rangeL]
  refine ⟨fun x e => ?_, fun e => by show n ≤ i; rw [← hz]; exact e⟩
  have hi : i < n := by rw [← hz]; exact (List.getElem?_eq_some_iff.mp e).1
  refine ⟨hi, fun v' H2 ⟨e2, e3⟩ => ?_⟩
  rw [e2, e3]
  refine ⟨r, Sub.refl _ _, ?_⟩
  unfold rangeL at e
  rw [List.getElem?_map, List.getElem?_range hi] at e
  cases e
  exact .int _
noncomputable def mRange1 (a : MA) : MA := fun ρ S => (a ρ S).bind fun xs S1 => match xs with | [.d (.int j)] => @ite _ (-(2 ^ 62) ≤ j ∧ j < 2 ^ 62) (Classical.propDecidable _) (.ok (rangeL 0 j.toNat) S1) .bad | _ => .bad
theorem pim_range1 {tg a : Expr} {ma : MA} {p : Pos} (hg : Gl X "range") (hm : X.mg "range" = none) (ha : PL X W [a] ma) (hs : starEach [a] X.env = [(false, eval a X.env)] := by rfl) : PIM X W tg (.Call (.Name "range" p) [a] [] pos) (mRange1 ma) := by
  refine pi_imp (pi_range1 hg hm ha hs) fun σ H R ⟨ι, S, ρ, hl, hr, h⟩ => ⟨ι, S, ρ, hl, hr, step h fun xs vs ι1 H1 S1 s1 r1 hx h1 => ?_⟩
  cases hx with
  | nil => exact h1.elim
  | @cons x v xs vs r t =>
    cases t with
    | cons r2 t2 => cases x <;> first | exact h1.elim | (rename_i y; cases y <;> exact h1.elim)
    | nil =>
      cases x with
      | d y =>
        cases y with
        | int j =>
          cases r
          simp only at h1
          by_cases c : -(2 ^ 62) ≤ j ∧ j < 2 ^ 62
          · rw [if_pos c] at h1
            exact ⟨j, rfl, c.1, c.2, h1 _ _ _ (Sub.refl _ _) r1 (itm_rng _ _)⟩
          · rw [if_neg c] at h1; exact h1.elim
        | _ => exact h1.elim
      | _ => exact h1.elim
noncomputable def mRange2 (a : MA) : MA := fun ρ S => (a ρ S).bind fun xs S1 => match xs with | [.d (.int i), .d (.int j)] => @ite _ (-(2 ^ 62) ≤ i ∧ i < 2 ^ 62 ∧ -(2 ^ 62) ≤ j ∧ j < 2 ^ 62) (Classical.propDecidable _) (.ok (rangeL i (j - i).toNat) S1) .bad | _ => .bad
theorem pim_range2 {tg a b : Expr} {ma : MA} {p : Pos} (hg : Gl X "range") (hm : X.mg "range" = none) (ha : PL X W [a, b] ma) (hs : starEach [a, b] X.env = [(false, eval a X.env), (false, eval b X.env)] := by rfl) (hs2 : starEach [b] X.env = [(false, eval b X.env)] := by rfl) : PIM X W tg (.Call (.Name "range" p) [a, b] [] pos) (mRange2 ma) := by
  refine pi_imp (pi_range2 hg hm ha hs hs2) fun σ H R ⟨ι, S, ρ, hl, hr, h⟩ => ⟨ι, S, ρ, hl, hr, step h fun xs vs ι1 H1 S1 s1 r1 hx h1 => ?_⟩
  split at h1
  · rename_i i j
    cases hx with
    | cons r t => cases t with
      | cons r2 t2 => cases t2 with
        | nil =>
          cases r; cases r2
          by_cases c : -(2 ^ 62) ≤ i ∧ i < 2 ^ 62 ∧ -(2 ^ 62) ≤ j ∧ j < 2 ^ 62
          · rw [if_pos c] at h1
            exact ⟨i, j, rfl, c, h1 _ _ _ (Sub.refl _ _) r1 (itm_rng _ _)⟩
          · rw [if_neg c] at h1; exact h1.elim
  · exact h1.elim

/-! ### for -/
def mLoop (g : MG) (b : MS) : List Mv → MS
  | [] => fun ρ S => .nx ρ S
  | x :: xs => fun ρ S => match g S x ρ with
    | none => .bad
    | some ρ1 => match b ρ1 S with
      | .nx ρ' S' => mLoop g b xs ρ' S' | .ct ρ' S' => mLoop g b xs ρ' S' | .bk ρ' S' => .nx ρ' S' | r => r
def mFor (mi : MA) (g : MG) (b : MS) : MS := fun ρ S => (mi ρ S).go ρ fun xs S1 => mLoop g b xs ρ S1
theorem drop_at {α : Type} {xs : List α} {i : Nat} {x : α} {r : List α} (e : xs.drop i = x :: r) : xs[i]? = some x ∧ xs.drop (i + 1) = r := by
  have h1 : (xs.drop i)[0]? = some x := by rw [e]; rfl
  rw [List.getElem?_drop] at h1
  refine ⟨by simpa using h1, ?_⟩
  rw [← List.drop_drop, e]; rfl
theorem pms_for {ts : List Nat} {tg iter : Expr} {body : List Stmt} {mi : MA} {g : MG} {mb : MS} (hp : PassesOwn (model X.prog X.w) X.A X.env X.xe) (hc : X.calm = true) (hi : PIM X W tg iter mi) (hg : PMG X ts tg g) (hb : PMB X W body mb)
    (hs : ∀ x, foldedSetIterable iter X.env x = pure x := by intro _; rfl) : PMS X W (.For tg iter body [] pos) (mFor mi g mb) := by
  refine ps_imp (ps_for hp hc hi hg hb hs) fun D σ H ⟨ι, S, ρ, hl, hr, h⟩ => ?_
  refine ⟨ι, S, ρ, hl, hr, stepS h hl fun xs J ι1 H1 S1 s1 r1 hJ h1 => ?_⟩
  refine ⟨fun i n σ H => ∃ ι S ρ, Sub ι1 H1 ι H ∧ LR X.K ι H ρ σ ∧ Rl X.K ι S H ∧ n = xs.length - i ∧ PostS X.K W ι H D (mLoop g mb (xs.drop i) ρ S), ⟨xs.length, ι1, S1, ρ, Sub.refl _ _, hl.mono s1, r1, rfl, h1⟩, fun i n σ H hW => ?_⟩
  clear hl hr h s1 r1 h1
  obtain ⟨ι, S, ρ, s, hl, hr, hn, h⟩ := hW
  cases e : xs.drop i with
  | nil =>
    rw [e] at h
    have : xs.length ≤ i := by
      have := congrArg List.length e
      simp at this; omega
    exact .inl ⟨(hJ ι H S s hr i).2 this, h _ _ _ (Sub.refl _ _) hr hl⟩
  | cons x r =>
    obtain ⟨e1, e2⟩ := drop_at e
    rw [e] at h
    obtain ⟨go, yl⟩ := (hJ ι H S s hr i).1 x e1
    refine .inr ⟨go, fun σ H => ∃ ι S ρ, Sub ι1 H1 ι H ∧ LR X.K ι H ρ σ ∧ Rl X.K ι S H ∧ PostS X.K W ι H D (mLoop g mb r ρ S), fun σ' H' q => ⟨xs.length - (i + 1), ?_, ?_⟩, fun v H2 hy => ?_⟩
    · have := (List.getElem?_eq_some_iff.mp e1).1
      omega
    · obtain ⟨ι', S', ρ', a, b, c, d⟩ := q
      exact ⟨ι', S', ρ', a, b, c, rfl, by rw [e2]; exact d⟩
    · obtain ⟨r2, s2, hx⟩ := yl v H2 hy
      simp only [mLoop] at h
      cases eg : g S x ρ with
      | none => rw [eg] at h; exact h.elim
      | some ρ1 =>
        rw [eg] at h
        refine ⟨ι, S, ρ, x, ρ1, hl.mono s2, r2, hx, eg, fun σ' l' _ => ⟨ι, S, ρ1, l', r2, ?_⟩⟩
        have h := h.sub s2
        simp only at h
        cases eb : mb ρ1 S with
        | nx ρ' S' => rw [eb] at h; exact fun ι' H' σ' s' r l => ⟨ι', S', ρ', (s.trans s2).trans s', l, r, h.sub s'⟩
        | ct ρ' S' => rw [eb] at h; exact fun ι' H' σ' s' r l => ⟨ι', S', ρ', (s.trans s2).trans s', l, r, h.sub s'⟩
        | bk ρ' S' => rw [eb] at h; exact h
        | rt ρ' S' => rw [eb] at h; exact h
        | exc _ ρ' S' => rw [eb] at h; exact h
        | bad => rw [eb] at h; exact h

/-! ### comprehensions -/
abbrev W0 : WX := fun _ _ _ _ => False
def okP {α : Type} (r : Res α) (k : α → Sg → Prop) : Prop := match r with | .ok x S => k x S | _ => False
theorem stepN {α β γ : Type} {R : Io → Hp → α → β → Prop} {K : PySem.W.Frag} {ι : Io} {σ : L2.St} {H : Hp} {T : β → Hp → Prop} {m : Res α} {f : α → Sg → Res γ} {q : γ → Sg → Prop} (hp : okP (m.bind f) q)
    (k : ∀ x v ι1 H1 S1, Sub ι H ι1 H1 → Rl K ι1 S1 H1 → R ι1 H1 x v → okP (f x S1) q → T v H1) : Post R K W0 ι σ H T m := by
  cases m with
  | ok x S' => exact fun ι' H' v s r x' => k x v ι' H' S' s r x' hp
  | exc e S' => exact hp.elim
  | bad => exact hp
def wipeM (ρ : Rho) : List Nat → Rho
  | [] => ρ
  | v :: vs => (wipeM ρ vs).set v none
def lcLoop (g : MG) (tt : MT) (te : ME) (ρ : Rho) : List Mv → List Mv → Sg → Res (List Mv)
  | [], acc, S => .ok acc S
  | x :: xs, acc, S => match g S x ρ with
    | none => .bad
    | some ρ1 => (tt ρ1 S).bind fun k S1 => if k = true then (te ρ1 S1).bind fun y S2 => if y.free = true ∧ acc.length < sizeLine then lcLoop g tt te ρ xs (acc ++ [y]) S2 else .bad else lcLoop g tt te ρ xs acc S1
def Res.nox {α : Type} : Res α → Res α
  | .exc _ _ => .bad
  | r => r
def mLc (b : Bi) (mi : MA) (g : MG) (tt : MT) (te : ME) (vs : List Nat) : ME := fun ρ S => (mi ρ S).bind fun xs S1 => (lcLoop g tt te (wipeM ρ vs) xs [] S1).nox.bind fun acc S2 => bear b (.lst acc) S2
def PTM (X : Cx) (W : WX) (ifs : List Expr) (m : MT) : Prop := PTs X ifs (tG RB X.K W m)
theorem pts_imp {ifs : List Expr} {t t' : TT} (h : PTs X ifs t) (i : ∀ σ H Q, t' σ H Q → t σ H Q) : PTs X ifs t' := ⟨fun pins s σ H Q I q => h.run pins s σ H Q I (i _ _ _ q)⟩
def mYes : MT := fun _ S => .ok true S
theorem ptm_nil : PTM X W [] mYes := pts_imp pts_nil fun σ H Q ⟨ι, S, ρ, hl, hr, h⟩ => h _ _ _ (Sub.refl _ _) hr rfl
theorem ptm_one {c : Expr} {m : MT} (h : PB X W c m) : PTM X W [c] m := pts_one h
theorem lr_wipe {K : PySem.W.Frag} {ι : Io} {H : Hp} {ρ : Rho} {σ : L2.St} (h : LR K ι H ρ σ) : ∀ vs : List Nat, LR K ι H (wipeM ρ vs) (wipe σ vs)
  | [] => h
  | v :: vs => by
    have ih := lr_wipe h vs
    refine ⟨by simp only [wipeM, wipe, List.length_set]; exact ih.1, fun i x e => ?_⟩
    simp only [wipeM] at e
    simp only [wipe]
    by_cases hi : v = i
    · subst hi
      by_cases hl : v < (wipeM ρ vs).length
      · rw [List.getElem?_set_self hl] at e; cases e
      · rw [List.getElem?_eq_none (by rw [List.length_set]; omega)] at e; cases e
    · rw [List.getElem?_set_ne hi] at e ⊢
      exact ih.2 i x e
theorem wipe_get (σ : L2.St) (i : Nat) : ∀ vs : List Nat, (wipe σ vs)[i]? = if i ∈ vs then (if i < σ.length then some none else none) else σ[i]?
  | [] => by simp [wipe]
  | v :: vs => by
    simp only [wipe]
    by_cases hi : v = i
    · subst hi
      by_cases hl : v < σ.length
      · rw [List.getElem?_set_self (by rw [wipe_length]; exact hl)]; simp [hl]
      · rw [List.getElem?_eq_none (by rw [List.length_set, wipe_length]; omega)]; simp [hl]
    · rw [List.getElem?_set_ne hi, wipe_get σ i vs]
      have : (i ∈ v :: vs) ↔ i ∈ vs := ⟨fun z => (List.mem_cons.mp z).resolve_left fun e => hi e.symm, fun z => List.mem_cons_of_mem _ z⟩
      simp only [this]
theorem wipe_off {σ σ' : L2.St} {ts vs : List Nat} (hs : ∀ t ∈ ts, t ∈ vs) (o : Off ts (wipe σ vs) σ') : wipe σ' vs = wipe σ vs := by
  refine List.ext_getElem? fun i => ?_
  have hl : σ'.length = σ.length := by rw [o.1, wipe_length]
  rw [wipe_get, wipe_get, hl]
  by_cases hi : i ∈ vs
  · simp [hi]
  · rw [if_neg hi, if_neg hi]
    rw [o.2 i (fun z => hi (hs i z)), wipe_get, if_neg hi]
theorem lc_coreM {ts vs : List Nat} {mi : MA} {g : MG} {tt : MT} {te : ME} {b : Bi} {σ : L2.St} {H : Hp} {Q : VK} (hs : ∀ t ∈ ts, t ∈ vs) (h : tG (XV X.K) X.K W (mLc b mi g tt te vs) σ H Q) :
    tLc (tG (ItM X.K) X.K W mi) (fun v σ H Q => ∃ ι S ρ x ρ', LR X.K ι H ρ σ ∧ Rl X.K ι S H ∧ XV X.K ι H x v ∧ g S x ρ = some ρ' ∧ ∀ σ', LR X.K ι H ρ' σ' → Off ts σ σ' → Q σ' H)
      (tG RB X.K W0 tt) (tG (XV X.K) X.K W0 te) vs σ H (Qf b Q) := by
  obtain ⟨ι, S, ρ, hl, hr, h⟩ := h
  refine ⟨ι, S, ρ, hl, hr, step h fun xs J ι1 H1 S1 s1 r1 hJ h1 => ?_⟩
  intro D hD
  -- the loop's end
  have h2 : okP (lcLoop g tt te (wipeM ρ vs) xs [] S1) fun acc S2 => Post (XV X.K) X.K W ι1 σ H1 Q (bear b (.lst acc) S2) := by
    cases e : lcLoop g tt te (wipeM ρ vs) xs [] S1 with
    | ok x S' => rw [e] at h1; exact h1
    | exc x S' => rw [e] at h1; exact h1
    | bad => rw [e] at h1; exact h1
  clear h1
  obtain ⟨rD, sD⟩ := r1.beside (u := .lst []) hD
  have hl1 : LR X.K ι1 H1 (wipeM ρ vs) (wipe σ vs) := lr_wipe (hl.mono s1) vs
  refine ⟨fun i n H => ∃ ι S acc ws, Sub ι1 H1 ι H ∧ Rl X.K ι S H ∧ (∀ q ∈ ι, q.2 ≠ D) ∧ H D = some (.lst ws) ∧ XCs X.K ι H acc ws ∧ n = xs.length - i ∧
      okP (lcLoop g tt te (wipeM ρ vs) (xs.drop i) acc S) fun acc S2 => Post (XV X.K) X.K W ι1 σ H1 Q (bear b (.lst acc) S2),
    ⟨xs.length, ι1, S1, [], [], sD, rD, fun q hq z => r1.live q hq (by rw [z]; exact hD), upd_same, .nil, rfl, h2⟩, fun i n H hW => ?_⟩
  clear hl hr h s1 h2 rD sD
  obtain ⟨ι, S, acc, ws, s, hr, hq, hp, hx, hn, h⟩ := hW
  cases e : xs.drop i with
  | nil =>
    rw [e] at h
    have : xs.length ≤ i := by
      have := congrArg List.length e
      simp at this; omega
    exact .inl ⟨(hJ ι H S s hr i).2 this, bear_lst s hD hr hp hq hx h⟩
  | cons x r =>
    obtain ⟨e1, e2⟩ := drop_at e
    rw [e] at h
    obtain ⟨go, yl⟩ := (hJ ι H S s hr i).1 x e1
    refine .inr ⟨go, fun H => ∃ ι S acc ws, Sub ι1 H1 ι H ∧ Rl X.K ι S H ∧ (∀ q ∈ ι, q.2 ≠ D) ∧ H D = some (.lst ws) ∧ XCs X.K ι H acc ws ∧
      okP (lcLoop g tt te (wipeM ρ vs) r acc S) fun acc S2 => Post (XV X.K) X.K W ι1 σ H1 Q (bear b (.lst acc) S2), fun H' q => ⟨xs.length - (i + 1), ?_, ?_⟩, fun v H2 hy => ?_⟩
    · have := (List.getElem?_eq_some_iff.mp e1).1
      omega
    · obtain ⟨ι', S', a', w', a, b, c, d, f, k⟩ := q
      exact ⟨ι', S', a', w', a, b, c, d, f, rfl, by rw [e2]; exact k⟩
    · obtain ⟨r2, s2, hv⟩ := yl v H2 hy
      simp only [lcLoop] at h
      cases eg : g S x (wipeM ρ vs) with
      | none => rw [eg] at h; exact h.elim
      | some ρ1 =>
        rw [eg] at h
        simp only at h
        have sA := s.trans s2
        have hl2 := hl1.mono sA
        refine ⟨ι, S, wipeM ρ vs, x, ρ1, hl2, r2, hv, eg, fun σ' l' off => ⟨wipe_off hs off, ι, S, ρ1, l', r2, stepN h fun k k' ι3 H3 S3 s3 r3 ek h3 => ?_⟩⟩
        cases ek
        have hp2 := s2.keep D _ hp hq
        have hp3 := s3.keep D _ hp2 hq
        have hq3 : ∀ q ∈ ι3, q.2 ≠ D := fun q hm => by
          obtain ⟨t, rfl, ht⟩ := s3.pre
          rcases List.mem_append.mp hm with hm | hm
          · exact hq q hm
          · exact fun z => by rw [← z, ht q hm] at hp2; cases hp2
        have sB := sA.trans s3
        cases k with
        | false =>
          refine iteF ⟨ι3, S3, acc, ws, sB, r3, hq3, hp3, XCs.mono s3 (XCs.mono s2 hx), by simpa using h3⟩
        | true =>
          rw [if_pos rfl] at h3
          refine iteT ⟨ι3, S3, ρ1, l'.mono s3, r3, stepN h3 fun y v' ι4 H4 S4 s4 r4 hy h4 => ?_⟩
          have hp4 := s4.keep D _ hp3 hq3
          have hq4 : ∀ q ∈ ι4, q.2 ≠ D := fun q hm => by
            obtain ⟨t, rfl, ht⟩ := s4.pre
            rcases List.mem_append.mp hm with hm | hm
            · exact hq3 q hm
            · exact fun z => by rw [← z, ht q hm] at hp3; cases hp3
          by_cases c : y.free = true ∧ acc.length < sizeLine
          · rw [if_pos c] at h4
            have g4 : Grow H4 (upd H4 D (.lst (ws ++ [v']))) := Grow.write hp4 trivial
            have hx4 : XCs X.K ι4 H4 acc ws := XCs.mono s4 (XCs.mono s3 (XCs.mono s2 hx))
            refine ⟨ws, hp4, by rw [← hx.length]; exact c.2, ι4, S4, acc ++ [y], ws ++ [v'], (sB.trans s4).again hD hp4, r4.aside hp4 trivial hq4, hq4, upd_same, ?_, h4⟩
            exact Paired.append (XCs.grown ⟨[], (List.append_nil _).symm⟩ g4 hx4) (.cons ⟨c.1, hy.grown ⟨[], (List.append_nil _).symm⟩ g4⟩ .nil)
          · rw [if_neg c] at h4; exact h4.elim
abbrev tgM (X : Cx) (ts : List Nat) (g : MG) : TG := fun v σ H Q => ∃ ι S ρ x ρ', LR X.K ι H ρ σ ∧ Rl X.K ι S H ∧ XV X.K ι H x v ∧ g S x ρ = some ρ' ∧ ∀ σ', LR X.K ι H ρ' σ' → Off ts σ σ' → Q σ' H
theorem pm_lc {ts vs : List Nat} {elt tg iter : Expr} {ifs : List Expr} {scope : Scope} {own : List (Str × Nat)} {mi : MA} {g : MG} {tt : MT} {te : ME} (b : Bi) (hc : X.calm = true) (hN : X.N.Nodup) (hi : PIM X W tg iter mi) (ok : BlkOk X.N X.env.scope scope own)
    (hg : ∀ (s : Shared) (H : Hp) (C : Addr) (cl : List (Str × Addr)) (fp : List Addr), PMG (X.blk s H scope (compEnvC scope cl C X.env) fp) ts tg g) (ht : ∀ (s : Shared) (H : Hp) (C : Addr) (cl : List (Str × Addr)) (fp : List Addr), PTM (X.blk s H scope (compEnvC scope cl C X.env) fp) W0 ifs tt)
    (he : ∀ (s : Shared) (H : Hp) (C : Addr) (cl : List (Str × Addr)) (fp : List Addr), PM (X.blk s H scope (compEnvC scope cl C X.env) fp) W0 elt te) (hs : ∀ t ∈ ts, t ∈ vs) (hv : own.map (·.2) = vs := by rfl) (hf : ∀ x, foldedSetIterable iter X.env x = pure x := by intro _; rfl) :
    PM X W (.ListComp elt [⟨tg, iter, ifs, 0⟩] scope pos) (mLc b mi g tt te vs) := by
  subst hv
  exact pe_imp (pe_b b (pe_lc (g := tgM X ts g) (tt := tG RB X.K W0 tt) (te := tG (XV X.K) X.K W0 te) hc hN hi ok hg ht he hf)) fun σ H Q h => lc_coreM hs h
/-- name = [..] on one row -/
def Qs (b : Bi) (Q : L2.St → Hp → Prop) : L2.St → Hp → Prop := fun σ H => match b with
  | .frz => Q σ H ∨ ∃ a u, H a = some u ∧ Mut (some u) ∧ ∀ o, Q σ (upd H a (.frz o u))
  | _ => Q σ H
theorem ps_b {st : Stmt} {t : TS} (b : Bi) (h : PS X st t) : PS X st (fun D σ H => t { D with nx := Qs b D.nx } σ H) := by
  cases b with
  | frz =>
    refine ⟨fun pins s σ H D I q => thn (h.run pins s σ H _ I q) fun f s1 q => ?_⟩
    cases f with
    | next =>
      obtain ⟨σ', H', I1, q⟩ := q
      rcases q with q | ⟨a, u, ha, mu, q⟩
      · exact ⟨σ', H', I1, q⟩
      · obtain ⟨od, I2⟩ := I1.lock ha mu
        exact ⟨_, _, I2, q od⟩
    | ret v => exact q
    | brk => exact q
    | cont => exact q
  | ref => exact h
  | own => exact h
theorem pms_setLc {ts vs : List Nat} {i : Nat} {y : Str} {py spos : Pos} {elt tg iter : Expr} {ifs : List Expr} {scope : Scope} {own : List (Str × Nat)} {mi : MA} {g : MG} {tt : MT} {te : ME} (b : Bi) (hc : X.calm = true) (hN : X.N.Nodup) (hy : X.N[i]? = some y) (hyl : X.env.scope.names.lookup y = some .local)
    (hsw : swapsWith (.ListComp elt [⟨tg, iter, ifs, 0⟩] scope pos) (some (.Name y py)) spos.line X.env = pure true) (hi : PIM X W tg iter mi) (ok : BlkOk X.N X.env.scope scope own)
    (hg : ∀ (s : Shared) (H : Hp) (C : Addr) (cl : List (Str × Addr)) (fp : List Addr), PMG (X.blk s H scope (compEnvC scope cl C X.env) fp) ts tg g) (ht : ∀ (s : Shared) (H : Hp) (C : Addr) (cl : List (Str × Addr)) (fp : List Addr), PTM (X.blk s H scope (compEnvC scope cl C X.env) fp) W0 ifs tt)
    (he : ∀ (s : Shared) (H : Hp) (C : Addr) (cl : List (Str × Addr)) (fp : List Addr), PM (X.blk s H scope (compEnvC scope cl C X.env) fp) W0 elt te) (hs : ∀ t ∈ ts, t ∈ vs) (hv : own.map (·.2) = vs := by rfl) (hf : ∀ x, foldedSetIterable iter X.env x = pure x := by intro _; rfl) :
    PMS X W (.Assign [.Name y py] (.ListComp elt [⟨tg, iter, ifs, 0⟩] scope pos) spos) (mAsg (mLc b mi g tt te vs) (mgName i)) := by
  subst hv
  refine ps_imp (ps_b b (ps_setLc (g := tgM X ts g) (tt := tG RB X.K W0 tt) (te := tG (XV X.K) X.K W0 te) hc hN hy hyl hsw hi ok hg ht he hf)) fun D σ H h => ?_
  obtain ⟨ι, S, ρ, hl, hr, h⟩ := h
  have h' : tG (XV X.K) X.K W (mLc b mi g tt te (own.map (·.2))) σ H fun v H1 => D.nx (σ.set i (some v)) H1 :=
    ⟨ι, S, ρ, hl, hr, stepS h hl fun x v ι1 H1 S1 s1 r1 hx h1 => h1 _ _ _ (Sub.refl _ _) r1 ((hl.mono s1).set i hx)⟩
  have h2 := lc_coreM (b := b) hs h'
  show tLc _ _ _ _ _ σ H _
  cases b with
  | ref => exact h2
  | own => exact h2
  | frz =>
    have e : ∀ (v : V) (H1 : Hp), Qf .frz (fun v H1 => D.nx (σ.set i (some v)) H1) v H1 → Qs .frz D.nx (σ.set i (some v)) H1 := by
      rintro v H1 (q | ⟨a, u, rfl, ha, mu, q⟩)
      · exact .inl q
      · exact .inr ⟨a, u, ha, mu, q⟩
    obtain ⟨ι, S, ρ, hl, hr, hp⟩ := h2
    refine ⟨ι, S, ρ, hl, hr, hp.imp fun J H1 q D0 hD => ?_⟩
    obtain ⟨Wv, w0, tn⟩ := q D0 hD
    refine ⟨Wv, w0, fun j m H2 hw => ?_⟩
    rcases tn j m H2 hw with ⟨a, q⟩ | q
    · exact .inl ⟨a, e _ _ q⟩
    · exact .inr q
end
end MM
end
section
set_option Elab.async false
set_option linter.all false
set_option maxRecDepth 100000
set_option maxHeartbeats 4000000
set_option autoImplicit false
namespace MM
open PySem PySem.Spec PyProof.Rows L2

/-! ### the law's own call -/
theorem ints_FDs {K : PySem.W.Frag} {H : Hp} : ∀ ns : List Int, FDs K H (ns.map PyData.int) (ns.map V.int)
  | [] => .nil
  | n :: r => .cons (.int n) (ints_FDs r)
theorem law_end {P : Program} {w : World} {K : PySem.W.Frag} {mg mb : Str → Option Value} {k : Nat} {fa a : Addr} {fd : FuncData} {x : Str} {m : List Mv → Sg → Res Mv} {s0 : Shared} {vs : List Value} {ns : List Int}
    (kin : K.In s0.heap) (gl : s0.heap.Ns mainGlobals mg) (bl : s0.heap.Ns builtinsNs mb) (bb : ∀ y : Str, y ≠ "__name__" → mb y = bootBuiltins y) (lim : s0.heap.NoLimit) (gn : s0.gens = #[])
    (obj : s0.heap.get? a = some { cls := .type "list", data := .seq vs.toArray }) (its : IntsAre vs ns) (few : ns.length ≤ sizeLine) (room : Room k callerA)
    (F : ∀ base : Heap, K.In base → base.Ns mainGlobals mg → FnM P w K mg base k fa fd [x] m) (bnd : ∀ (s : Shared) (u : Value), BindsTo s fd ⟨[u], []⟩ [(x, u)])
    (good : ∃ S', m [.d (.list (ns.map PyData.int))] [] = .ok (.d (.bool true)) S') :
    codeAny (model P w) callerA (.call (.ref fa) ⟨[.ref a], []⟩) (fun r s' => r = .ok (.ret (.bool true)) ∧ OldK s0.heap s'.heap ∧ s'.os = s0.os ∧ AllBare s'.gens) s0 := by
  have rv := vals_ints its
  -- H: nothing is tracked but, perhaps, the script, known to its object
  have main : ∀ H : Hp, (∀ b, H b ≠ none → b = a ∧ K.lookup a = none ∧ ∃ o xs, H b = some (.frz o (.lst xs))) → FzL K H a (ns.map V.int) → HOk P w H s0.heap →
      codeAny (model P w) callerA (.call (.ref fa) ⟨[.ref a], []⟩) (fun r s' => r = .ok (.ret (.bool true)) ∧ OldK s0.heap s'.heap ∧ s'.os = s0.os ∧ AllBare s'.gens) s0 := by
    intro H only script held
    have off : ∀ {b : Addr} {o : Obj} {es : Array DictEntry} {ep : Nat}, s0.heap.get? b = some o → o.data = .dict es ep → H b = none := by
      intro b o es ep e d
      cases q : H b with
      | none => rfl
      | some u =>
        obtain ⟨rfl, _⟩ := only b (by rw [q]; exact fun z => nomatch z)
        rw [obj] at e; cases e; cases d
    have ns' : ∀ {b : Addr} {mm : Str → Option Value}, s0.heap.Ns b mm → (hidT s0.heap H).Ns b mm := fun ⟨o, es, ep, e, d, r⟩ => ⟨o, es, ep, hidT_get e (off e d), d, r⟩
    have kin' : K.In (hidT s0.heap H) := by
      intro b o e
      refine hidT_get (kin b o e) ?_
      cases q : H b with
      | none => rfl
      | some u =>
        obtain ⟨rfl, h2, _⟩ := only b (by rw [q]; exact fun z => nomatch z)
        rw [h2] at e; cases e
    have md : Mod K mg (hidT s0.heap H) := ⟨kin', ns' gl, ⟨mb, ns' bl, bb⟩, let ⟨mc, h1, h2⟩ := lim; ⟨mc, ns' h1, h2⟩⟩
    have ent : Env0 P w K mg (hidT s0.heap H) callerA [] s0 H := ⟨rfl, md, fun b o e => of_hidT e, Nat.le_of_eq (hidT_size _ _), trivial, (fun b hb => nomatch hb), held, .of_eq gn⟩
    obtain ⟨S', hS⟩ := good
    have want : spM K 1 m [.ref a] H (fun v _ => v = .bl true) (fun _ _ _ => False) := by
      refine ⟨[], [], [.d (.list (ns.map PyData.int))], .cons ⟨rfl, .lst script (ints_FDs ns)⟩ .nil, rfl, ⟨rfl, List.nodup_nil, (fun p hp => nomatch hp), (fun i b o p e => by simp at e)⟩, ?_⟩
      rw [hS]
      intro ι' H' v s r hv
      cases hv
      rfl
    refine codeAny_mono ((F _ kin' (ns' gl)).run callerA [] s0 H ⟨[.ref a], []⟩ [.ref a] [.ref a] _ _ room rfl ent (bnd s0 (.ref a)) (.cons rfl .nil) want) fun res s' got => ?_
    cases res with
    | error e => exact let ⟨_, _, _, _, _, _, _, _, _, _, _, _, z⟩ := got; z.elim
    | ok fl =>
      cases fl with
      | next => exact got.elim
      | brk => exact got.elim
      | cont => exact got.elim
      | ret u =>
        obtain ⟨v, H', os, bare, un, held', rel, (rfl : v = .bl true)⟩ := got
        obtain rfl : u = Value.bool true := rel
        refine ⟨rfl, OldK.of_keep fun b o e => ?_, os, bare⟩
        cases q : H b with
        | none => exact un.keep b o e q (fun z => nomatch z) (fun z => nomatch z)
        | some u =>
          obtain ⟨_, _, ob, xs, q2⟩ := only b (by rw [q]; exact fun z => nomatch z)
          have e1 := (held b _ q2).1
          have e2 := (held' b _ (un.frzs b ob _ q2)).1
          rw [e] at e1; cases e1
          exact e2
  cases hk : K.lookup a with
  | some o =>
    have e := kin a o hk
    rw [obj] at e; cases e
    exact main (fun _ => none) (fun b z => absurd rfl z) (.inr ⟨vs.toArray, _, hk, by rw [List.size_toArray, its.length]; exact few, by simpa using rv⟩) (fun b u z => by cases z)
  | none =>
    refine main (fun b => if b = a then some (.frz { cls := .type "list", data := .seq vs.toArray } (.lst (ns.map V.int))) else none) (fun b z => ?_) (.inl ⟨_, if_pos rfl⟩) (fun b u z => ?_)
    · by_cases hb : b = a
      · exact ⟨hb, hk, _, _, if_pos hb⟩
      · exact absurd (if_neg hb) z
    · by_cases hb : b = a
      · subst hb
        have z' := (if_pos rfl).symm.trans z
        cases z'
        exact ⟨obj, by rw [List.length_map]; exact few, vs, _, rv, obj⟩
      · have z' := (if_neg hb).symm.trans z
        cases z'
/-- the goal behind the head -/
theorem walk_end {l : PySem.W.OpenLaw} {n k : Nat} {q : Program} {loose : List Str} {XP : (Str → Option Value) → Heap → Prop} {YP : World → Heap → Prop} {d : DefRec} {K : Params → PySem.W.Frag} {x : Str}
    (hn : l.most = some n) (hn2 : n ≤ sizeLine) (hdf : d.params.defaults = []) (room : Room k callerA)
    (hY : ∀ (w : World) (h : Heap), YP w h → (K w.params).In h)
    (F : ∀ (w : World) (mg : Str → Option Value) (fa : Addr) (h : Heap), (K w.params).In h → h.Ns mainGlobals mg → mg d.name = some (.ref fa) →
      ∃ (fd : FuncData) (m : List Mv → Sg → Res Mv), (∀ (s : Shared) (u : Value), BindsTo s fd ⟨[u], []⟩ [(x, u)]) ∧
        (∀ base : Heap, (K w.params).In base → base.Ns mainGlobals mg → FnM l.prog w (K w.params) mg base k fa fd [x] m) ∧
        ∀ ns : List Int, ns.length ≤ n → ∃ S', m [.d (.list (ns.map PyData.int))] [] = .ok (.d (.bool true)) S') :
    PySem.W.WalkO q loose XP YP l.row.toRowW d [] (fun f vs => PySem.call f vs) := by
  refine Att.attach_call hn hdf fun w s0 s1 mg mb fa o pm cd doc a vs ns G Y ho hd hcd hmg obj its few gn => ?_
  have kin := hY w _ Y
  obtain ⟨fd, m, bnd, hF, good⟩ := F w mg fa _ kin G.T.g hmg
  exact law_end kin G.T.g G.T.b G.T.builtins G.T.nolimit gn obj its (Nat.le_trans few hn2) room hF bnd (good ns few)
end MM
end
section
set_option Elab.async false
set_option linter.all false
set_option maxRecDepth 100000
set_option maxHeartbeats 4000000
set_option autoImplicit false
namespace MM
open PySem PySem.Spec PyProof.Rows L2

/-! ### operators by values -/
section
variable {X : Cx} {W : WX}
theorem OpR.or2 {f : Value → Value → Sem Value} {r r' : R2} (h : OpR X f r) (h' : OpR X f r') : OpR X f (fun x y H Q => r x y H Q ∨ r' x y H Q) := fun pins s σ H x y v u Q I rx ry q => by
  rcases q with q | q
  · exact h pins s σ H x y v u Q I rx ry q
  · exact h' pins s σ H x y v u Q I rx ry q
/-- lists of any kind, one behind the other -/
def rCatL (K : PySem.W.Frag) : R2 := fun x y H Q => ∃ l b xs zs, x = .ref l ∧ y = .ref b ∧ SqL K H l xs ∧ SqL K H b zs ∧ xs.length + zs.length ≤ sizeLine ∧ ∀ p, H p = none → Q (.ref p) (upd H p (.lst (xs ++ zs)))
theorem op_catL : OpR X (binaryOp .Add) (rCatL X.K) := by
  intro pins s σ H x y v u Q I rx ry h
  obtain ⟨l, b, xs, zs, rfl, rfl, h1, h2, hz, q⟩ := h
  cases rx
  cases ry
  obtain ⟨its, r1, ⟨⟨cls, dd, data, sl⟩, n, e1, c1, d1, t1⟩, z1⟩ := I.list h1
  obtain ⟨its2, r2, ⟨⟨cls2, dd2, data2, sl2⟩, n2, e2, c2, d2, t2⟩, z2⟩ := I.list h2
  simp only at c1 d1 t1 c2 d2 t2
  subst c1 d1 t1 c2 d2 t2
  have la := r1.length
  have lb := r2.length
  refine concat_meets ⟨_, e1, rfl⟩ ⟨_, e2, rfl⟩ noFill_list_add seq_list_add PySem.F.slot_list_add PySem.F.entry_list_add (PySem.F.args_list_add_2 _ _) (PyProof.Rows.list_addW l b its.toArray its2.toArray n n2 none none sl sl2 (by simp; omega)) ⟨e1, e2, ?_⟩
  have ea : its.toArray ++ its2.toArray = (its ++ its2).toArray := by simp
  rw [ea]
  have hf : H s.heap.objs.size = none := I.hok.fresh (Nat.le_refl _)
  refine ⟨.ref s.heap.objs.size, upd H s.heap.objs.size (.lst (xs ++ zs)), I.laid (t' := s.toks) (fun b u e => Heap.get?_push_of_some _ e) (Nat.le_refl _) ?_, rfl, q _ hf⟩
  exact ⟨by rw [List.length_append]; exact hz, its ++ its2, 0, r1.append r2, Heap.get?_push_size _ rfl⟩

def Mv.isList (S : Sg) (x : Mv) : Option (List Mv) := match x.seq S with | some (false, xs) => some xs | _ => none
theorem Mv.isList_ok {K : PySem.W.Frag} {ι : Io} {S : Sg} {H : Hp} (hr : Rl K ι S H) {x : Mv} {v : V} (hx : XV K ι H x v) {xs : List Mv} (e : x.isList S = some xs) : ∃ a vs, v = .ref a ∧ PlnL K H a vs ∧ XCs K ι H xs vs := by
  unfold Mv.isList at e
  cases e1 : x.seq S with
  | none => rw [e1] at e; cases e
  | some p =>
    obtain ⟨t, ys⟩ := p
    rw [e1] at e
    cases t with
    | true => cases e
    | false =>
      cases e
      obtain ⟨a, vs, h1, h2, h3⟩ := Mv.seq_ok hr hx e1
      exact ⟨a, vs, h1, h2, h3⟩
def gAdd : Sg → Mv → Mv → Option Nw := fun S x y => match x, y with
  | .d (.int i), .d (.int j) => some (.val (.d (.int (i + j))))
  | .d (.str a), .d (.str b) => if a.length + b.length ≤ sizeLine then some (.val (.d (.str (a ++ b)))) else none
  | x, y => match x.isList S, y.isList S with
    | some xs, some ys => if xs.length + ys.length ≤ sizeLine then some (.lst (xs ++ ys)) else none
    | _, _ => none
theorem cat_case {K : PySem.W.Frag} {ι : Io} {S : Sg} {H : Hp} {Q : VK} {x y : Mv} {v u : V} {z : Nw} (hr : Rl K ι S H) (hx : XV K ι H x v) (hy : XV K ι H y u)
    (e : (match x.isList S, y.isList S with | some xs, some ys => if xs.length + ys.length ≤ sizeLine then some (Nw.lst (xs ++ ys)) else none | _, _ => none) = some z) (q : Raw K ι H Q z) : rCatL K v u H Q := by
  cases e1 : x.isList S with
  | none => rw [e1] at e; cases e
  | some xs =>
    cases e2 : y.isList S with
    | none => rw [e1, e2] at e; cases e
    | some ys =>
      rw [e1, e2] at e
      simp only at e
      by_cases c : xs.length + ys.length ≤ sizeLine
      · rw [if_pos c] at e
        cases e
        obtain ⟨a, vs, rfl, s1, p1⟩ := Mv.isList_ok hr hx e1
        obtain ⟨b, ws, rfl, s2, p2⟩ := Mv.isList_ok hr hy e2
        exact ⟨a, b, vs, ws, rfl, rfl, s1.sq, s2.sq, by rw [← p1.length, ← p2.length]; exact c, fun p hp => q _ p (Paired.append p1 p2) hp⟩
      · rw [if_neg c] at e; cases e
theorem o_add : OpP X (binaryOp .Add) gAdd := by
  refine OpR.imp (OpR.or2 op_add (OpR.or2 op_add_str op_catL)) fun v u H Q ⟨ι, S, x, y, z, hr, hx, hy, e, q⟩ => ?_
  unfold gAdd at e
  split at e
  · cases e; cases hx; cases hy
    exact .inl ⟨_, _, rfl, rfl, q _ (.int _)⟩
  · cases hx; cases hy
    split at e
    · rename_i c
      cases e
      exact .inr (.inl ⟨_, _, rfl, rfl, c, q _ (.str _)⟩)
    · cases e
  · exact .inr (.inr (cat_case hr hx hy e q))
def gSub : Sg → Mv → Mv → Option Nw := fun _ x y => match x, y with
  | .d (.int i), .d (.int j) => some (.val (.d (.int (i - j))))
  | _, _ => none
theorem o_sub : OpP X (binaryOp .Sub) gSub := by
  refine OpR.imp op_sub fun v u H Q ⟨ι, S, x, y, z, hr, hx, hy, e, q⟩ => ?_
  unfold gSub at e
  split at e
  · cases e; cases hx; cases hy
    exact ⟨_, _, rfl, rfl, q _ (.int _)⟩
  · cases e
/-- a text so many times -/
def strRep (x : Str) (n : Nat) : Str := ⟨(List.replicate n x.cps.toList).flatten.toArray⟩
theorem strRep_length (x : Str) (n : Nat) : (strRep x n).length = n * x.length := by
  unfold strRep Str.length
  simp [List.length_flatten]
theorem foldl_cat (a : Array Nat) : ∀ (n : Nat) (acc : Array Nat), (List.replicate n a).foldl (· ++ ·) acc = acc ++ (List.replicate n a.toList).flatten.toArray
  | 0, acc => by simp
  | n + 1, acc => by
    rw [List.replicate_succ, List.foldl_cons, foldl_cat a n, List.replicate_succ, List.flatten_cons]
    apply Array.ext'
    simp [Array.toList_append, List.append_assoc]
def rRepS : R2 := fun x y H Q => ∃ (z : Str) (n : Int), x = .str z ∧ y = .int n ∧ -(2 ^ 63) ≤ n ∧ n < 2 ^ 63 ∧ z.length * n.toNat ≤ sizeLine ∧ Q (.str (strRep z n.toNat)) H
theorem op_repS : OpR X (binaryOp .Mult) rRepS := by
  intro pins s σ H x y v u Q I rx ry h
  obtain ⟨z, n, rfl, rfl, h1, h2, hz, q⟩ := h
  obtain ⟨t, rfl⟩ := rx
  obtain ⟨t', rfl⟩ := ry
  have hsl : sizeLine = 16777216 := sizeLine_eq
  refine PySem.P.mul_str (by rw [decide_eq_false (by omega), decide_eq_false (by omega)]; rfl) (fun c1 c2 => ?_) (fun c1 c2 => ?_) ?_
  · intro c3
    simp only [Bool.or_eq_false_iff, beq_eq_false_iff_ne, ne_eq] at c2
    have hn : (0 : Int) < n := by omega
    have h3 : (z.length : Int) * n ≤ 16777216 := by
      have : ((z.length * n.toNat : Nat) : Int) ≤ 16777216 := by omega
      rw [Int.natCast_mul, Int.toNat_of_nonneg (by omega)] at this
      exact this
    have h4 : (z.length : Int) ≤ (2 ^ 63 - 1) / n := (Int.le_ediv_iff_mul_le hn).mpr (by omega)
    omega
  · unfold Builtin.Str.tooLong
    exact decide_eq_false (by omega)
  · by_cases c1 : n < 1
    · rw [if_pos c1]
      have e0 : n.toNat = 0 := by omega
      have e : strRep z n.toNat = Str.empty := by rw [e0]; rfl
      rw [e] at q
      exact ⟨Nat.zero_le _, .str _, H, I.tok _, ⟨_, rfl⟩, q⟩
    · rw [if_neg c1]
      by_cases c2 : (n == 1 || z.length == 0) = true
      · rw [if_pos c2]
        have e : strRep z n.toNat = z := by
          rcases Bool.or_eq_true_iff.mp c2 with c | c
          · have : n = 1 := by simpa using c
            subst this
            unfold strRep
            show (⟨(List.replicate 1 z.cps.toList).flatten.toArray⟩ : Str) = z
            simp
          · have c' : z.length = 0 := by simpa using c
            have : z.cps = #[] := Array.eq_empty_of_size_eq_zero c'
            unfold strRep
            obtain ⟨cps⟩ := z
            simp only at this
            subst this
            simp
        rw [e] at q
        exact ⟨.str _, H, I, ⟨t, rfl⟩, q⟩
      · rw [if_neg c2, foldl_cat]
        have e : (⟨#[] ++ (List.replicate n.toNat z.cps.toList).flatten.toArray⟩ : Str) = strRep z n.toNat := by unfold strRep; simp
        rw [e]
        exact ⟨by rw [strRep_length, Nat.mul_comm]; exact hz, .str _, H, I.tok _, ⟨_, rfl⟩, q⟩
theorem Paired.rep {α β : Type} {F : α → β → Prop} {xs : List α} {ys : List β} (h : Paired F xs ys) : ∀ n, Paired F (List.replicate n xs).flatten (List.replicate n ys).flatten
  | 0 => .nil
  | n + 1 => by
    rw [List.replicate_succ, List.replicate_succ, List.flatten_cons, List.flatten_cons]
    exact Paired.append h (Paired.rep h n)
/-- a list of any kind so many times -/
def rRepL (K : PySem.W.Frag) : R2 := fun x y H Q => ∃ l k xs, x = .ref l ∧ y = .int k ∧ PlnL K H l xs ∧ -(2 ^ 63) ≤ k ∧ k < 2 ^ 63 ∧ xs.length * k.toNat ≤ sizeLine ∧ ∀ p, H p = none → Q (.ref p) (upd H p (.lst (List.replicate k.toNat xs).flatten))
theorem op_repL : OpR X (binaryOp .Mult) (rRepL X.K) := by
  intro pins s σ H x y v u Q I rx ry h
  obtain ⟨l, k, xs, rfl, rfl, hH, b1, b2, hz, q⟩ := h
  cases rx
  obtain ⟨t, rfl⟩ := ry
  obtain ⟨its, n, e, r, few⟩ := PlnL.obj I hH
  have hl := r.length
  have room : its.toArray.size * k.toNat ≤ sizeLine := by rw [List.size_toArray, ← hl]; exact hz
  have cap : ¬ its.toArray.size * k.toNat > (2 ^ 63 - 1) / 8 := by
    have big : (sizeLine : Nat) ≤ (2 ^ 63 - 1) / 8 := by decide
    omega
  have fit : ¬ (!Builtin.List.listFitsIndex k) = true := by rw [fitsIndex_both b1 b2]; exact Bool.false_ne_true
  have long : ¬ Builtin.List.listTooLong (its.toArray.size * k.toNat) = true := by rw [notLongL room]; exact Bool.false_ne_true
  have made : List.foldl (fun x1 x2 => x1 ++ x2) #[] (List.replicate (if its.toArray.isEmpty = true then 0 else k.toNat) its.toArray) = (List.replicate k.toNat its).flatten.toArray := by
    have f0 : ∀ m : Nat, List.foldl (fun x1 x2 => x1 ++ x2) #[] (List.replicate m its.toArray) = (List.replicate m its).flatten.toArray := fun m => by
      have := foldl_rep its m []
      rw [List.nil_append] at this
      exact this
    rw [f0]
    cases its with
    | nil => simp
    | cons a r' => rw [if_neg (by simp)]
  refine wpAny_binaryOp_repeat_ref (T := "list") (U := "int") (by decide) ⟨_, e, rfl⟩ (fun s' => typeIs_int s' k t) noFill_list_mul PySem.F.fills_int_mul PySem.F.slot_int_rmul repeat_list PySem.F.slot_int_index.lookup
    (call_meets PySem.F.slot_int_rmul (typeIs_int s k t) PySem.F.entry_int_rmul (PySem.F.args_int_rmul_2 _ _) (int___rmul___int_list k t l its.toArray n)
      ⟨e, rfl, ⟨_, e, rfl⟩, call_meets PySem.F.slot_list_mul ⟨_, e, rfl⟩ PySem.F.entry_list_mul (PySem.F.args_list_mul_2 _ _) (AutoListH.list___mul___list_int_3 l its.toArray n k t fit cap long) ⟨e, ?_⟩⟩)
  rw [made]
  exact ⟨.ref _, _, I.lnew (t' := s.toks) (r.rep k.toNat) (by rw [PyProof.Rows.lm_len_rep_flat, Nat.mul_comm]; exact hz), rfl, q _ I.fresh⟩
def repSq (S : Sg) (x : Mv) (k : Int) : Option Nw := match x.seq S with
  | some (false, xs) => if -(2 ^ 63) ≤ k ∧ k < 2 ^ 63 ∧ xs.length * k.toNat ≤ sizeLine then some (.lst (List.replicate k.toNat xs).flatten) else none
  | some (true, xs) => if xs ≠ [] ∧ 2 ≤ k ∧ k ≤ 1000 ∧ xs.length ≤ 1000 then some (.tup (List.replicate k.toNat xs).flatten) else none
  | none => none
def gMul : Sg → Mv → Mv → Option Nw := fun S x y => match x, y with
  | .d (.int i), .d (.int j) => if (-(2 ^ 64) < i ∧ i < 2 ^ 64) ∨ (-(2 ^ 64) < j ∧ j < 2 ^ 64) then some (.val (.d (.int (i * j)))) else none
  | .d (.str z), .d (.int n) => if -(2 ^ 63) ≤ n ∧ n < 2 ^ 63 ∧ z.length * n.toNat ≤ sizeLine then some (.val (.d (.str (strRep z n.toNat)))) else none
  | x, .d (.int k) => repSq S x k
  | _, _ => none
theorem o_mul : OpP X (binaryOp .Mult) gMul := by
  refine OpR.imp (OpR.or2 (OpR.or2 op_mul op_repS) (OpR.or2 op_repL op_repT)) fun v u H Q ⟨ι, S, x, y, z, hr, hx, hy, e, q⟩ => ?_
  unfold gMul at e
  split at e
  · split at e
    · rename_i c
      cases e; cases hx; cases hy
      exact .inl (.inl ⟨_, _, rfl, rfl, c, q _ (.int _)⟩)
    · cases e
  · split at e
    · rename_i c
      cases e; cases hx; cases hy
      exact .inl (.inr ⟨_, _, rfl, rfl, c.1, c.2.1, c.2.2, q _ (.str _)⟩)
    · cases e
  · rename_i k _ _
    unfold repSq at e
    cases hy
    split at e
    · rename_i xs e1
      obtain ⟨a, vs, rfl, s1, p1⟩ := Mv.seq_ok hr hx e1
      split at e
      · rename_i c
        cases e
        exact .inr (.inl ⟨a, k, vs, rfl, rfl, s1, c.1, c.2.1, by rw [← p1.length]; exact c.2.2, fun p hp => q _ p (Paired.rep p1 _) hp⟩)
      · cases e
    · rename_i xs e1
      obtain ⟨a, vs, rfl, s1, p1⟩ := Mv.seq_ok hr hx e1
      split at e
      · rename_i c
        cases e
        refine .inr (.inr ⟨a, k, vs, rfl, rfl, s1, fun h => c.1 ?_, c.2.1, c.2.2.1, by rw [← p1.length]; exact c.2.2.2, fun p hp => q _ p (Paired.rep p1 _) hp⟩)
        subst h
        exact List.eq_nil_of_length_eq_zero p1.length
      · cases e
    · cases e
  · cases e
def gMod : Sg → Mv → Mv → Option Nw := fun _ x y => match x, y with
  | .d (.int i), .d (.int j) => if 0 < j then some (.val (.d (.int (i % j)))) else none
  | _, _ => none
theorem o_mod : OpP X (binaryOp .Mod) gMod := by
  refine OpR.imp op_mod fun v u H Q ⟨ι, S, x, y, z, hr, hx, hy, e, q⟩ => ?_
  unfold gMod at e
  split at e
  · split at e
    · rename_i c
      cases e; cases hx; cases hy
      exact ⟨_, _, rfl, rfl, c, q _ (.int _)⟩
    · cases e
  · cases e
def gFdiv : Sg → Mv → Mv → Option Nw := fun _ x y => match x, y with
  | .d (.int i), .d (.int j) => if 0 < j ∧ j < 2 ^ 64 then some (.val (.d (.int (i / j)))) else none
  | _, _ => none
theorem o_fdiv : OpP X (binaryOp .FloorDiv) gFdiv := by
  refine OpR.imp op_fdivW fun v u H Q ⟨ι, S, x, y, z, hr, hx, hy, e, q⟩ => ?_
  unfold gFdiv at e
  split at e
  · split at e
    · rename_i i j c
      cases e; cases hx; cases hy
      exact ⟨_, _, rfl, rfl, wide_div (b := 64) c.1 (by omega) (by decide) (by decide), q _ (.int _)⟩
    · cases e
  · cases e
def gPow : Sg → Mv → Mv → Option Nw := fun _ x y => match x, y with
  | .d (.int i), .d (.int j) => if 0 ≤ j ∧ j ≤ 1000000 ∧ i.natAbs < 2 ^ 64 then some (.val (.d (.int (i ^ j.toNat)))) else none
  | _, _ => none
theorem o_pow : OpP X (binaryOp .Pow) gPow := by
  refine OpR.imp op_pow fun v u H Q ⟨ι, S, x, y, z, hr, hx, hy, e, q⟩ => ?_
  unfold gPow at e
  split at e
  · split at e
    · rename_i c
      cases e; cases hx; cases hy
      exact ⟨_, _, rfl, rfl, c, q _ (.int _)⟩
    · cases e
  · cases e

/-! ### comparisons -/
def gIntB (f : Int → Int → Bool) : Sg → Mv → Mv → Option Nw := fun _ x y => match x, y with
  | .d (.int i), .d (.int j) => some (.val (.d (.bool (f i j))))
  | _, _ => none
theorem o_intB {op : CmpOp} {f : Int → Int → Bool} (h : OpR X (compareOp op) (rI0 fun i j => .bl (f i j))) : OpP X (compareOp op) (gIntB f) := by
  refine OpR.imp h fun v u H Q ⟨ι, S, x, y, z, hr, hx, hy, e, q⟩ => ?_
  unfold gIntB at e
  split at e
  · cases e; cases hx; cases hy
    exact ⟨_, _, rfl, rfl, q _ (.bl _)⟩
  · cases e
abbrev gLt := gIntB fun i j => decide (i < j)
abbrev gLe := gIntB fun i j => decide (i ≤ j)
abbrev gGt := gIntB fun i j => decide (j < i)
abbrev gGe := gIntB fun i j => decide (j ≤ i)
theorem o_lt : OpP X (compareOp .Lt) gLt := o_intB op_lt
theorem o_le : OpP X (compareOp .LtE) gLe := o_intB op_le
theorem o_gt : OpP X (compareOp .Gt) gGt := o_intB op_gt
theorem o_ge : OpP X (compareOp .GtE) gGe := o_intB op_ge
/-- what a value is as data, a list of the store by its items -/
def Mv.data (S : Sg) (x : Mv) : Option PyData := match x with
  | .d x => some x
  | x => match x.seq S with
    | some (false, xs) => (allD xs).map .list
    | some (true, xs) => (allD xs).map .tuple
    | none => none
mutual
theorem FD.dp {K : PySem.W.Frag} {H : Hp} : ∀ {d : PyData} {v : V}, FD K H d v → d.hasDict = false → Dp K H v d
  | _, _, .non, _ => .non
  | _, _, .bl b, _ => .bl b
  | _, _, .int i, _ => .int i
  | _, _, .str x, _ => .str x
  | _, _, .lst h hs, e => .lst h.sq (FDs.dp hs (by simpa [PyData.hasDict] using e))
  | _, _, .tup h hs, e => .tup h (FDs.dp hs (by simpa [PyData.hasDict] using e))
  | _, _, .dct _ _, e => by simp [PyData.hasDict] at e
theorem FDs.dp {K : PySem.W.Frag} {H : Hp} : ∀ {ds : List PyData} {vs : List V}, FDs K H ds vs → PyData.hasDictAll ds = false → DpAll K H vs ds
  | _, _, .nil, _ => .nil
  | _, _, .cons h hs, e => by
    simp only [PyData.hasDictAll, Bool.or_eq_false_iff] at e
    exact .cons (FD.dp h e.1) (FDs.dp hs e.2)
end
theorem noDict_of_shaped {d : PyData} (h : SeqAt.shaped d = true) : d.hasDict = false := PyData.hasDict_of_canLay d (SeqAt.canLay_of_shaped h)
theorem Mv.data_ok {K : PySem.W.Frag} {ι : Io} {S : Sg} {H : Hp} (hr : Rl K ι S H) {x : Mv} {v : V} (hx : XV K ι H x v) {d : PyData} (e : x.data S = some d) (hs : SeqAt.shaped d = true) : Dp K H v d := by
  have hd := noDict_of_shaped hs
  have sq : ∀ t xs, x.seq S = some (t, xs) → (∀ ds, allD xs = some ds → d = (if t = true then .tuple ds else .list ds) → Dp K H v d) := by
    intro t xs e1 ds e2 e3
    obtain ⟨a, vs, rfl, h1, h2⟩ := Mv.seq_ok hr hx e1
    have p := allD_FDs h2 e2
    subst e3
    cases t with
    | true => exact .tup h1 (FDs.dp p (by simpa [PyData.hasDict] using hd))
    | false => exact .lst (PlnL.sq h1) (FDs.dp p (by simpa [PyData.hasDict] using hd))
  cases x with
  | d y => cases e; exact FD.dp hx hd
  | _ =>
    simp only [Mv.data] at e
    split at e
    · rename_i xs e1
      obtain ⟨ds, e2, e3⟩ := Option.map_eq_some_iff.mp e
      exact sq _ _ e1 ds e2 e3.symm
    · rename_i xs e1
      obtain ⟨ds, e2, e3⟩ := Option.map_eq_some_iff.mp e
      exact sq _ _ e1 ds e2 e3.symm
    · cases e
def gEqN (neg : Bool) : Sg → Mv → Mv → Option Nw := fun S x y => match x, y with
  | .d (.str a), .d (.str b) => some (.val (.d (.bool (if neg then !decide (a = b) else decide (a = b)))))
  | x, y => match x.data S, y.data S with
    | some d, some e => if SeqAt.shaped d = true ∧ SeqAt.shaped e = true then some (.val (.d (.bool (if neg then !PyData.eqv d e else PyData.eqv d e)))) else none
    | _, _ => none
theorem eqN_case {K : PySem.W.Frag} {neg : Bool} {ι : Io} {S : Sg} {H : Hp} {Q : VK} {x y : Mv} {v u : V} {z : Nw} (hr : Rl K ι S H) (hx : XV K ι H x v) (hy : XV K ι H y u) (e : gEqN neg S x y = some z) (q : Raw K ι H Q z) :
    (∃ a b, v = .str a ∧ u = .str b ∧ Q (.bl (if neg then !decide (a = b) else decide (a = b))) H) ∨
      ∃ d e, Dp K H v d ∧ Dp K H u e ∧ SeqAt.shaped d = true ∧ SeqAt.shaped e = true ∧ Q (.bl (if neg then !PyData.eqv d e else PyData.eqv d e)) H := by
  unfold gEqN at e
  split at e
  · cases e; cases hx; cases hy
    exact .inl ⟨_, _, rfl, rfl, q _ (.bl _)⟩
  · cases e1 : x.data S with
    | none => rw [e1] at e; cases e
    | some d =>
      cases e2 : y.data S with
      | none => rw [e1, e2] at e; cases e
      | some d' =>
        rw [e1, e2] at e
        simp only at e
        by_cases c : SeqAt.shaped d = true ∧ SeqAt.shaped d' = true
        · rw [if_pos c] at e
          cases e
          exact .inr ⟨d, d', Mv.data_ok hr hx e1 c.1, Mv.data_ok hr hy e2 c.2, c.1, c.2, q _ (.bl _)⟩
        · rw [if_neg c] at e; cases e
theorem str_dec {a b : Str} : decide (V.str a = V.str b) = decide (a = b) := by
  by_cases h : a = b
  · subst h; rw [decide_eq_true rfl, decide_eq_true rfl]
  · rw [decide_eq_false h, decide_eq_false fun e => h (V.str.inj e)]
theorem o_eq (hu : X.A.units + 64 < cLine) : OpP X (compareOp .Eq) (gEqN false) := OpR.imp (OpR.or2 op_eq (op_eqD hu)) fun v u H Q ⟨ι, S, x, y, z, hr, hx, hy, e, q⟩ => by
  rcases eqN_case (neg := false) hr hx hy e q with ⟨a, b, rfl, rfl, h⟩ | h
  · exact .inl ⟨rfl, by rw [str_dec]; exact h⟩
  · exact .inr h
theorem o_ne (hu : X.A.units + 64 < cLine) : OpP X (compareOp .NotEq) (gEqN true) := OpR.imp (OpR.or2 op_ne (op_neD hu)) fun v u H Q ⟨ι, S, x, y, z, hr, hx, hy, e, q⟩ => by
  rcases eqN_case (neg := true) hr hx hy e q with ⟨a, b, rfl, rfl, h⟩ | h
  · exact .inl ⟨rfl, by rw [str_dec]; exact h⟩
  · exact .inr h
/-- in, not in: of a text, of a list -/
def inStr (i j : Str) : Bool := !(Builtin.Str.occurrences j i 0 j.length 1).isEmpty
def gInN (neg : Bool) : Sg → Mv → Mv → Option Nw := fun S x y => match x, y with
  | .d (.str i), .d (.str j) => some (.val (.d (.bool (if neg then !inStr i j else inStr i j))))
  | x, y => match x.data S, y.data S with
    | some d, some (.list ds) => if SeqAt.shaped d = true ∧ SeqAt.shaped (.list ds) = true then some (.val (.d (.bool (if neg then !ds.any (fun z => PyData.eqv z d) else ds.any (fun z => PyData.eqv z d))))) else none
    | _, _ => none
theorem inN_case {K : PySem.W.Frag} {neg : Bool} {ι : Io} {S : Sg} {H : Hp} {Q : VK} {x y : Mv} {v u : V} {z : Nw} (hr : Rl K ι S H) (hx : XV K ι H x v) (hy : XV K ι H y u) (e : gInN neg S x y = some z) (q : Raw K ι H Q z) :
    (∃ i j, v = .str i ∧ u = .str j ∧ Q (.bl (if neg then !inStr i j else inStr i j)) H) ∨
      ∃ d ds, Dp K H v d ∧ Dp K H u (.list ds) ∧ SeqAt.shaped d = true ∧ SeqAt.shaped (.list ds) = true ∧ Q (.bl (if neg then !ds.any (fun z => PyData.eqv z d) else ds.any (fun z => PyData.eqv z d))) H := by
  unfold gInN at e
  split at e
  · cases e; cases hx; cases hy
    exact .inl ⟨_, _, rfl, rfl, q _ (.bl _)⟩
  · split at e
    · rename_i d ds e1 e2
      split at e
      · rename_i c
        cases e
        exact .inr ⟨d, ds, Mv.data_ok hr hx e1 c.1, Mv.data_ok hr hy e2 c.2, c.1, c.2, q _ (.bl _)⟩
      · cases e
    · cases e
theorem o_in (hu : X.A.units + 65 < cLine) : OpP X (compareOp .In) (gInN false) := OpR.imp (OpR.or2 op_in_str (op_inD hu)) fun v u H Q ⟨ι, S, x, y, z, hr, hx, hy, e, q⟩ => inN_case (neg := false) hr hx hy e q
theorem o_notIn (hu : X.A.units + 65 < cLine) : OpP X (compareOp .NotIn) (gInN true) := by
  refine OpR.imp (OpR.or2 op_notin_str (op_notInD hu)) fun v u H Q ⟨ι, S, x, y, z, hr, hx, hy, e, q⟩ => ?_
  rcases inN_case (neg := true) hr hx hy e q with ⟨i, j, h1, h2, h3⟩ | h
  · refine .inl ⟨i, j, h1, h2, ?_⟩
    have h4 : Q (.bl (!inStr i j)) H := h3
    simpa [inStr] using h4
  · exact .inr h
/-- is, is not: none, truths -/
def gIsN (neg : Bool) : Sg → Mv → Mv → Option Nw := fun _ x y => match x, y with
  | .d x, .d .none => some (.val (.d (.bool (match x with | .none => !neg | _ => neg))))
  | .ref _, .d .none => some (.val (.d (.bool neg)))
  | .d (.bool a), .d (.bool b) => some (.val (.d (.bool (if neg then !decide (a = b) else decide (a = b)))))
  | _, _ => none
theorem isN_case {K : PySem.W.Frag} {neg : Bool} {ι : Io} {S : Sg} {H : Hp} {Q : VK} {x y : Mv} {v u : V} {z : Nw} (hx : XV K ι H x v) (hy : XV K ι H y u) (e : gIsN neg S x y = some z) (q : Raw K ι H Q z) :
    (u = .non ∧ Q (.bl (if neg then !decide (v = .non) else decide (v = .non))) H) ∨ ∃ a b, v = .bl a ∧ u = .bl b ∧ Q (.bl (if neg then !decide (a = b) else decide (a = b))) H := by
  unfold gIsN at e
  split at e
  · cases e; cases hy
    refine .inl ⟨rfl, ?_⟩
    have q := q _ (.bl _)
    cases neg <;> cases hx <;> simpa using q
  · cases e; cases hy
    obtain ⟨a, _, rfl⟩ := hx
    refine .inl ⟨rfl, ?_⟩
    have q := q _ (.bl _)
    cases neg <;> simpa using q
  · cases e; cases hx; cases hy
    exact .inr ⟨_, _, rfl, rfl, q _ (.bl _)⟩
  · cases e
theorem o_is : OpP X (compareOp .Is) (gIsN false) := OpR.imp (OpR.or2 op_isN op_is_bl) fun v u H Q ⟨ι, S, x, y, z, hr, hx, hy, e, q⟩ => isN_case (neg := false) hx hy e q
theorem o_isnot : OpP X (compareOp .IsNot) (gIsN true) := OpR.imp (OpR.or2 op_notN op_isnot_bl) fun v u H Q ⟨ι, S, x, y, z, hr, hx, hy, e, q⟩ => isN_case (neg := true) hx hy e q
end
end MM
end
section
set_option Elab.async false
set_option linter.all false
set_option maxRecDepth 100000
set_option maxHeartbeats 4000000
set_option autoImplicit false
namespace MM
open PySem PySem.Spec PyProof.Rows L2

/-! ### built-ins by name -/
section
variable {X : Cx} {W : WX}
def CallP (X : Cx) (f : Value) (g : Sg → List Mv → Option Nw) : Prop :=
  CallR X f fun vs H Q => ∃ ι S xs z, Rl X.K ι S H ∧ XVs X.K ι H xs vs ∧ g S xs = some z ∧ Raw X.K ι H Q z
theorem CallR.imp {f : Value} {r r' : List V → Hp → VK → Prop} (h : CallR X f r) (i : ∀ x H Q, r' x H Q → r x H Q) : CallR X f r' := fun pins s σ H xs us Q I rx q => h pins s σ H xs us Q I rx (i _ _ _ q)
theorem CallR.or2 {f : Value} {r r' : List V → Hp → VK → Prop} (h : CallR X f r) (h' : CallR X f r') : CallR X f (fun x H Q => r x H Q ∨ r' x H Q) := fun pins s σ H xs us Q I rx q => by
  rcases q with q | q
  · exact h pins s σ H xs us Q I rx q
  · exact h' pins s σ H xs us Q I rx q
def mCB (b : Bi) (g : Sg → List Mv → Option Nw) (a : MA) : ME := fun ρ S => (a ρ S).bind fun xs S1 => opt (g S1 xs) fun z => bear b z S1
theorem cb_core {g : Sg → List Mv → Option Nw} {ma : MA} {b : Bi} {σ : L2.St} {H : Hp} {Q : VK} (h : tG (XV X.K) X.K W (mCB b g ma) σ H Q) :
    tCB (fun vs H Q => ∃ ι S xs z, Rl X.K ι S H ∧ XVs X.K ι H xs vs ∧ g S xs = some z ∧ Raw X.K ι H Q z) (tG (XVs X.K) X.K W ma) σ H (Qf b Q) := by
  obtain ⟨ι, S, ρ, hl, hr, h⟩ := h
  refine ⟨ι, S, ρ, hl, hr, step h fun xs vs ι1 H1 S1 s1 r1 hx h1 => ?_⟩
  unfold opt at h1
  cases e : g S1 xs with
  | none => rw [e] at h1; exact h1.elim
  | some z =>
    rw [e] at h1
    exact ⟨ι1, S1, xs, z, r1, hx, e, bear_raw r1 h1⟩
theorem pm_callB {x : Str} {id : String} {g : Sg → List Mv → Option Nw} {ma : MA} {e : Expr} {es : List Expr} {p pos : Pos} (b : Bi) (hc : CallP X (.builtin id) g) (hg : Gl X x) (hm : X.mg x = none) (hv : bootBuiltins x = some (.builtin id)) (ha : PL X W (e :: es) ma) (hn : x ≠ "__name__" := by decide) (hdb : (x == ("__debug__" : Str)) = false := by decide)
    (he : starEach (e :: es) X.env = (false, eval e X.env) :: starEach es X.env := by rfl) (hpl : (backTo pos (starEach es X.env)).any (·.1) = false := by rfl) : PM X W (.Call (.Name x p) (e :: es) [] pos) (mCB b g ma) :=
  pe_imp (pe_b b (pe_callB hc hg hm hv ha hn hdb he hpl)) fun σ H Q h => cb_core h
theorem pm_callTy {x : Str} {T : String} {g : Sg → List Mv → Option Nw} {ma : MA} {e : Expr} {es : List Expr} {p pos : Pos} (b : Bi) (hc : CallP X (.type T) g) (hg : Gl X x) (hm : X.mg x = none) (hv : bootBuiltins x = some (.type T)) (ha : PL X W (e :: es) ma) (hn : x ≠ "__name__" := by decide) (hdb : (x == ("__debug__" : Str)) = false := by decide)
    (he : starEach (e :: es) X.env = (false, eval e X.env) :: starEach es X.env := by rfl) (hpl : (backTo pos (starEach es X.env)).any (·.1) = false := by rfl) : PM X W (.Call (.Name x p) (e :: es) [] pos) (mCB b g ma) :=
  pe_imp (pe_b b (pe_callTy hc hg hm hv ha hn hdb he hpl)) fun σ H Q h => cb_core h
/-- a built-in class as a value -/
theorem pm_ty {x : Str} {T : String} {pos : Pos} (hg : Gl X x) (hm : X.mg x = none) (hv : bootBuiltins x = some (.type T)) (hn : x ≠ "__name__" := by decide) (hd : (x == ("__debug__" : Str)) = false := by decide) : PM X W (.Name x pos) (mK (.ty T)) :=
  pe_imp (pe_bltn (v := .ty T) hg hm hv rfl hn hd) fun σ H Q ⟨ι, S, ρ, hl, hr, h⟩ => h _ _ _ (Sub.refl _ _) hr rfl
theorem one_of {K : PySem.W.Frag} {ι : Io} {H : Hp} {x : Mv} {vs : List V} (h : XVs K ι H [x] vs) : ∃ v, vs = [v] ∧ XV K ι H x v := by
  cases h with | cons r t => cases t; exact ⟨_, rfl, r⟩
theorem two_of {K : PySem.W.Frag} {ι : Io} {H : Hp} {x y : Mv} {vs : List V} (h : XVs K ι H [x, y] vs) : ∃ v u, vs = [v, u] ∧ XV K ι H x v ∧ XV K ι H y u := by
  cases h with | cons r t => obtain ⟨u, rfl, q⟩ := one_of t; exact ⟨_, u, rfl, r, q⟩

/-- len -/
def Mv.len (S : Sg) (x : Mv) : Option Nat := match x with
  | .d (.str z) => if z.length ≤ sizeLine then some z.length else none
  | x => (x.seq S).map fun q => q.2.length
theorem Mv.len_ok {K : PySem.W.Frag} {ι : Io} {S : Sg} {H : Hp} (hr : Rl K ι S H) {x : Mv} {v : V} (hx : XV K ι H x v) {n : Nat} (e : x.len S = some n) : LenV K v H n := by
  have sq : ∀ t xs, x.seq S = some (t, xs) → n = xs.length → LenV K v H n := by
    intro t xs e1 e2
    obtain ⟨a, vs, rfl, h1, h2⟩ := Mv.seq_ok hr hx e1
    cases t with
    | true => exact .inr ⟨vs, h1, by rw [e2, h2.length]⟩
    | false => exact .inl ⟨vs, PlnL.sq h1, by rw [e2, h2.length]⟩
  unfold Mv.len at e
  split at e
  · split at e
    · cases e; cases hx
      exact ⟨by assumption, rfl⟩
    · cases e
  · obtain ⟨⟨t, xs⟩, e1, e2⟩ := Option.map_eq_some_iff.mp e
    exact sq t xs e1 e2.symm
def gLen : Sg → List Mv → Option Nw := fun S xs => match xs with
  | [x] => (x.len S).map fun n : Nat => .val (.d (.int n))
  | _ => none
theorem c_len : CallP X (.builtin "len") gLen := by
  refine CallR.imp call_len fun vs H Q ⟨ι, S, xs, z, hr, hx, e, q⟩ => ?_
  unfold gLen at e
  split at e
  · obtain ⟨n, e1, rfl⟩ := Option.map_eq_some_iff.mp e
    obtain ⟨v, rfl, h⟩ := one_of hx
    exact ⟨v, n, rfl, Mv.len_ok hr h e1, q _ (.int _)⟩
  · cases e
/-- lists of truths, of whole numbers, of texts -/
def boolsM : List Mv → Option (List Bool)
  | [] => some []
  | .d (.bool b) :: r => (boolsM r).map (b :: ·)
  | _ :: _ => none
def intsM : List Mv → Option (List Int)
  | [] => some []
  | .d (.int b) :: r => (intsM r).map (b :: ·)
  | _ :: _ => none
def strsM : List Mv → Option (List Str)
  | [] => some []
  | .d (.str b) :: r => (strsM r).map (b :: ·)
  | _ :: _ => none
section
variable {K : PySem.W.Frag} {ι : Io} {H : Hp}
theorem bools_ok : ∀ {xs : List Mv} {vs : List V} {bs : List Bool}, XCs K ι H xs vs → boolsM xs = some bs → vs = bs.map V.bl
  | _, _, _, .nil, e => by cases e; rfl
  | x :: xs, _, _, .cons r t, e => by
    cases x with
    | d y => cases y with
      | bool b =>
        obtain ⟨l, e1, rfl⟩ := Option.map_eq_some_iff.mp (show (boolsM xs).map (b :: ·) = _ from e)
        cases r.2
        rw [bools_ok t e1]; rfl
      | _ => cases e
    | _ => cases e
theorem ints_ok : ∀ {xs : List Mv} {vs : List V} {bs : List Int}, XCs K ι H xs vs → intsM xs = some bs → vs = bs.map V.int
  | _, _, _, .nil, e => by cases e; rfl
  | x :: xs, _, _, .cons r t, e => by
    cases x with
    | d y => cases y with
      | int b =>
        obtain ⟨l, e1, rfl⟩ := Option.map_eq_some_iff.mp (show (intsM xs).map (b :: ·) = _ from e)
        cases r.2
        rw [ints_ok t e1]; rfl
      | _ => cases e
    | _ => cases e
theorem strs_ok : ∀ {xs : List Mv} {vs : List V} {bs : List Str}, XCs K ι H xs vs → strsM xs = some bs → vs = bs.map V.str
  | _, _, _, .nil, e => by cases e; rfl
  | x :: xs, _, _, .cons r t, e => by
    cases x with
    | d y => cases y with
      | str b =>
        obtain ⟨l, e1, rfl⟩ := Option.map_eq_some_iff.mp (show (strsM xs).map (b :: ·) = _ from e)
        cases r.2
        rw [strs_ok t e1]; rfl
      | _ => cases e
    | _ => cases e
end
def gList1 {α : Type} (p : List Mv → Option α) (f : α → Nw) : Sg → List Mv → Option Nw := fun S xs => match xs with
  | [x] => (x.isList S).bind fun ys => (p ys).map f
  | _ => none
theorem list1_ok {α : Type} {p : List Mv → Option α} {f : α → Nw} {K : PySem.W.Frag} {ι : Io} {S : Sg} {H : Hp} {xs : List Mv} {vs : List V} {z : Nw} (hr : Rl K ι S H) (hx : XVs K ι H xs vs) (e : gList1 p f S xs = some z) :
    ∃ a ys ws c, vs = [.ref a] ∧ PlnL K H a ws ∧ XCs K ι H ys ws ∧ p ys = some c ∧ z = f c := by
  unfold gList1 at e
  split at e
  · obtain ⟨ys, e1, e2⟩ := Option.bind_eq_some_iff.mp e
    obtain ⟨c, e3, rfl⟩ := Option.map_eq_some_iff.mp e2
    obtain ⟨v, rfl, h⟩ := one_of hx
    obtain ⟨a, ws, rfl, h1, h2⟩ := Mv.isList_ok hr h e1
    exact ⟨a, ys, ws, c, rfl, h1, h2, e3, rfl⟩
  · cases e
def gAll := gList1 boolsM fun bs => .val (.d (.bool (bs.all id)))
def gAny := gList1 boolsM fun bs => .val (.d (.bool (bs.any id)))
def gSum := gList1 intsM fun ns => .val (.d (.int ns.sum))
theorem c_all (hc : X.calm = true) : CallP X (.builtin "all") gAll := by
  refine CallR.imp (cr_all hc) fun vs H Q ⟨ι, S, xs, z, hr, hx, e, q⟩ => ?_
  obtain ⟨a, ys, ws, c, rfl, h1, h2, e1, rfl⟩ := list1_ok hr hx e
  exact ⟨a, c, rfl, by rw [← bools_ok h2 e1]; exact h1.sq, q _ (.bl _)⟩
theorem c_any (hc : X.calm = true) : CallP X (.builtin "any") gAny := by
  refine CallR.imp (cr_any hc) fun vs H Q ⟨ι, S, xs, z, hr, hx, e, q⟩ => ?_
  obtain ⟨a, ys, ws, c, rfl, h1, h2, e1, rfl⟩ := list1_ok hr hx e
  exact ⟨a, c, rfl, by rw [← bools_ok h2 e1]; exact h1.sq, q _ (.bl _)⟩
theorem c_sum (hc : X.calm = true) : CallP X (.builtin "sum") gSum := by
  refine CallR.imp (cr_sum hc) fun vs H Q ⟨ι, S, xs, z, hr, hx, e, q⟩ => ?_
  obtain ⟨a, ys, ws, c, rfl, h1, h2, e1, rfl⟩ := list1_ok hr hx e
  exact ⟨a, c, rfl, by rw [← ints_ok h2 e1]; exact h1.sq, q _ (.int _)⟩
theorem paired_of {α β : Type} {F : α → β → Prop} : ∀ {xs : List α} {ys : List β}, xs.length = ys.length → (∀ (i : Nat) (x : α) (y : β), xs[i]? = some x → ys[i]? = some y → F x y) → Paired F xs ys
  | [], [], _, _ => .nil
  | [], _ :: _, h, _ => by cases h
  | _ :: _, [], h, _ => by cases h
  | x :: xs, y :: ys, h, f => .cons (f 0 x y rfl rfl) (paired_of (by simpa using h) fun i a b ha hb => f (i + 1) a b ha hb)
def signsV (z : Str) : List V := z.cps.toList.map fun c => V.str ⟨#[c]⟩
theorem signsV_vals {z : Str} {acc : Array Value} (h : ItemsOf (SignAt z) acc z.cps.size) : Vals (signsV z) acc.toList := by
  refine paired_of (by simp [signsV, h.1]) fun i x y hx hy => ?_
  obtain ⟨c, u, hc, rfl⟩ := h.2 i y (by simpa using hy)
  simp only [signsV, List.getElem?_map, Array.getElem?_toList, hc, Option.map_some, Option.some.injEq] at hx
  subst hx
  exact ⟨u, rfl⟩
theorem signs_xcs {K : PySem.W.Frag} {ι : Io} {H : Hp} (z : Str) : XCs K ι H (signs z) (signsV z) := by
  unfold signs signsV
  induction z.cps.toList with
  | nil => exact .nil
  | cons c r ih => exact .cons ⟨rfl, .str _⟩ ih
theorem call_list_signs (hc : X.calm = true) : CallR X (.type "list") (fun xs H Q => ∃ z, xs = [.str z] ∧ z.length ≤ sizeLine ∧ ∀ l, H l = none → Q (.ref l) (upd H l (.lst (signsV z)))) := by
  intro pins s σ H xs us Q I r ⟨z, ez, hz, q⟩
  subst ez
  obtain ⟨u, rfl, ru⟩ := vals1 r
  obtain ⟨t, rfl⟩ := ru
  refine call_list_str (I.ok.hd hc) z t (fun h' tk acc c kp e its => ?_) hz
  exact ⟨.ref s.heap.objs.size, _, I.laid (t' := tk) kp (Nat.le_refl _) (show ObjOk X.prog X.w _ h' _ (.lst (signsV z)) from ⟨by simp only [signsV, List.length_map, Array.length_toList]; exact hz, acc.toList, c, signsV_vals its, e⟩), rfl, q _ (I.hok.fresh (Nat.le_refl _))⟩
theorem call_tuple_signs (hc : X.calm = true) : CallR X (.type "tuple") (fun xs H Q => ∃ z, xs = [.str z] ∧ z.length ≤ sizeLine ∧ ∀ l, H l = none → Q (.ref l) (upd H l (.tup (signsV z)))) := by
  intro pins s σ H xs us Q I r ⟨z, ez, hz, q⟩
  subst ez
  obtain ⟨u, rfl, ru⟩ := vals1 r
  obtain ⟨t, rfl⟩ := ru
  refine call_tuple_str (I.ok.hd hc) z t (fun h' tk acc kp its => ?_) hz
  have I1 : Inv X pins σ H { s with heap := h', toks := tk } := I.kept (t' := tk) kp
  have I2 : Inv X pins σ (upd H h'.objs.size (.tup (signsV z))) { s with heap := h'.push { cls := .type "tuple", data := .seq acc }, toks := tk } :=
    I1.laid (t' := tk) (fun b o e => Heap.get?_push_of_some _ e) (Nat.le_refl _) (show ObjOk X.prog X.w _ _ _ (.tup (signsV z)) from ⟨by simp only [signsV, List.length_map, Array.length_toList]; exact hz, acc.toList, signsV_vals its, by simpa using IsTup.new _ _⟩)
  exact ⟨.ref h'.objs.size, _, I2, rfl, q _ (I1.hok.fresh (Nat.le_refl _))⟩
/-- list(xs) of a list, a tuple, a text -/
def gList : Sg → List Mv → Option Nw := fun S xs => match xs with
  | [.d (.str z)] => if z.length ≤ sizeLine then some (.lst (signs z)) else none
  | [x] => (x.seq S).map fun q => .lst q.2
  | _ => none
theorem c_list (hc : X.calm = true) : CallP X (.type "list") gList := by
  refine CallR.imp (CallR.or2 call_list_of (call_list_signs hc)) fun vs H Q ⟨ι, S, xs, z, hr, hx, e, q⟩ => ?_
  unfold gList at e
  split at e
  · rename_i y
    split at e
    · rename_i c
      cases e
      obtain ⟨v, rfl, h⟩ := one_of hx
      cases h
      exact .inr ⟨y, rfl, c, fun l hl => q _ l (signs_xcs y) hl⟩
    · cases e
  · obtain ⟨⟨t, ys⟩, e1, rfl⟩ := Option.map_eq_some_iff.mp e
    obtain ⟨v, rfl, h⟩ := one_of hx
    obtain ⟨a, ws, rfl, h1, h2⟩ := Mv.seq_ok hr h e1
    refine .inl ⟨a, ws, rfl, ?_, fun l hl => q ws l h2 hl⟩
    cases t with
    | true => exact .inr h1
    | false => exact .inl (PlnL.sq h1)
  · cases e
/-- tuple(xs) of a list, a tuple, a text -/
def gTuple : Sg → List Mv → Option Nw := fun S xs => match xs with
  | [.d (.str z)] => if z.length ≤ sizeLine then some (.tup (signs z)) else none
  | [x] => match x.seq S with
    | some (false, ys) => some (.tup ys)
    | some (true, _) => some (.val x)
    | none => none
  | _ => none
theorem c_tuple (hc : X.calm = true) : CallP X (.type "tuple") gTuple := by
  refine CallR.imp (CallR.or2 call_tuple_of (call_tuple_signs hc)) fun vs H Q ⟨ι, S, xs, z, hr, hx, e, q⟩ => ?_
  unfold gTuple at e
  split at e
  · rename_i y
    split at e
    · rename_i c
      cases e
      obtain ⟨v, rfl, h⟩ := one_of hx
      cases h
      exact .inr ⟨y, rfl, c, fun l hl => q _ l (signs_xcs y) hl⟩
    · cases e
  · obtain ⟨v, rfl, h⟩ := one_of hx
    split at e
    · rename_i ys e1
      cases e
      obtain ⟨a, ws, rfl, h1, h2⟩ := Mv.seq_ok hr h e1
      exact .inl ⟨a, ws, rfl, .inl ⟨PlnL.sq h1, fun l hl => q ws l h2 hl⟩⟩
    · rename_i ys e1
      cases e
      obtain ⟨a, ws, rfl, h1, h2⟩ := Mv.seq_ok hr h e1
      exact .inl ⟨a, ws, rfl, .inr ⟨h1, q _ h⟩⟩
    · cases e
  · cases e
/-- divmod by a small positive number -/
def gDivmod : Sg → List Mv → Option Nw := fun _ xs => match xs with
  | [.d (.int i), .d (.int j)] => if 0 < j ∧ j < 1073741824 then some (.tup [.d (.int (i / j)), .d (.int (i % j))]) else none
  | _ => none
theorem c_divmod : CallP X (.builtin "divmod") gDivmod := by
  refine CallR.imp call_divmod fun vs H Q ⟨ι, S, xs, z, hr, hx, e, q⟩ => ?_
  unfold gDivmod at e
  split at e
  · split at e
    · rename_i c
      cases e
      obtain ⟨v, u, rfl, h1, h2⟩ := two_of hx
      cases h1; cases h2
      exact ⟨_, _, rfl, c, fun p hp => q _ p (.cons ⟨rfl, .int _⟩ (.cons ⟨rfl, .int _⟩ .nil)) hp⟩
    · cases e
  · cases e
/-- isinstance by a built-in class -/
def Mv.kind (S : Sg) (x : Mv) : Option String := match x with
  | .d .none => some "NoneType"
  | .d (.bool _) => some "bool"
  | .d (.int _) => some "int"
  | .d (.str _) => some "str"
  | .d (.dict _) => some "dict"
  | x => (x.seq S).map fun q => if q.1 = true then "tuple" else "list"
theorem SqT_ty {K : PySem.W.Frag} {H : Hp} {a : Addr} {vs : List V} (h : SqT K H a vs) : TyX K H (.ref a) (.type "tuple") := by
  rcases h with (h | ⟨o, h⟩) | ⟨o, its, n, h1, h2, _⟩
  · exact .base (.tup h)
  · exact .fTuple h
  · exact .kTuple h1 h2
theorem PlnL_ty {K : PySem.W.Frag} {H : Hp} {a : Addr} {vs : List V} (h : PlnL K H a vs) : TyX K H (.ref a) (.type "list") := by
  rcases h with h | ⟨o, h⟩ | ⟨its, n, h1, _⟩
  · exact .base (.lst h)
  · exact .base (.frz h)
  · exact .kList h1 rfl
theorem Mv.kind_ok {K : PySem.W.Frag} {ι : Io} {S : Sg} {H : Hp} (hr : Rl K ι S H) {x : Mv} {v : V} (hx : XV K ι H x v) {t : String} (e : x.kind S = some t) : TyX K H v (.type t) := by
  have sq : ∀ b xs, x.seq S = some (b, xs) → t = (if b = true then "tuple" else "list") → TyX K H v (.type t) := by
    intro b xs e1 e2
    obtain ⟨a, vs, rfl, h1, h2⟩ := Mv.seq_ok hr hx e1
    subst e2
    cases b with
    | true => exact SqT_ty h1
    | false => exact PlnL_ty h1
  unfold Mv.kind at e
  split at e
  · cases e; cases hx; exact .base .non
  · cases e; cases hx; exact .base (.bl _)
  · cases e; cases hx; exact .base (.int _)
  · cases e; cases hx; exact .base (.str _)
  · cases e
    cases hx with
    | dct h _ => exact .fDict h
  · obtain ⟨⟨b, xs⟩, e1, e2⟩ := Option.map_eq_some_iff.mp e
    exact sq b xs e1 e2.symm
def gIsi : Sg → List Mv → Option Nw := fun S xs => match xs with
  | [x, .ty c] => (x.kind S).bind fun t => (kitB t c).map fun b => .val (.d (.bool b))
  | _ => none
theorem c_isi : CallP X (.builtin "isinstance") gIsi := by
  refine CallR.imp call_isi fun vs H Q ⟨ι, S, xs, z, hr, hx, e, q⟩ => ?_
  unfold gIsi at e
  split at e
  · obtain ⟨t, e1, e2⟩ := Option.bind_eq_some_iff.mp e
    obtain ⟨b, e3, rfl⟩ := Option.map_eq_some_iff.mp e2
    obtain ⟨v, u, rfl, h1, h2⟩ := two_of hx
    cases h2
    exact ⟨v, _, _, _, b, rfl, .ty _, Mv.kind_ok hr h1 e1, kit_ty e3, q _ (.bl _)⟩
  · cases e
/-! data that lies in no list and no dict -/
mutual
def thin : PyData → Bool
  | .none | .bool _ | .int _ | .str _ => true
  | .tuple xs => thinAll xs
  | _ => false
def thinAll : List PyData → Bool
  | [] => true
  | x :: xs => thin x && thinAll xs
end
mutual
theorem FD.thinReads {X : Cx} {pins : List (Addr × Obj)} {σ : L2.St} {H : Hp} {s : Shared} (I : Inv X pins σ H s) : ∀ {d : PyData} {v : V} {u : Value}, FD X.K H d v → RelV v u → thin d = true → Reads s.heap u d []
  | _, _, _, .non, r, _ => by cases r; exact .none
  | _, _, _, .bl b, r, _ => by cases r; exact .bool b
  | _, _, _, .int i, r, _ => by obtain ⟨t, rfl⟩ := r; exact .int i t
  | _, _, _, .str z, r, _ => by obtain ⟨t, rfl⟩ := r; exact .str z t
  | _, _, _, .lst _ _, _, e => by simp [thin] at e
  | _, _, _, .dct _ _, _, e => by simp [thin] at e
  | _, _, _, .tup h hs, r, e => by
    cases r
    obtain ⟨its, rv, ⟨o, ho, hc, n, hd⟩, _⟩ := I.tuple h
    exact .tuple ho hc hd (FDs.thinReads I hs rv (by simpa [thin] using e))
theorem FDs.thinReads {X : Cx} {pins : List (Addr × Obj)} {σ : L2.St} {H : Hp} {s : Shared} (I : Inv X pins σ H s) : ∀ {ds : List PyData} {vs : List V} {us : List Value}, FDs X.K H ds vs → Vals vs us → thinAll ds = true → ReadsAll s.heap us ds []
  | _, _, _, .nil, r, _ => by cases r; exact .nil
  | _, _, _, .cons h hs, r, e => by
    cases r with
    | cons r1 r2 =>
      simp only [thinAll, Bool.and_eq_true] at e
      exact ReadsAll.cons (as := []) (bs := []) (FD.thinReads I h r1 e.1) (FDs.thinReads I hs r2 e.2)
end
theorem FDk.pairs {X : Cx} {pins : List (Addr × Obj)} {σ : L2.St} {H : Hp} {s : Shared} (I : Inv X pins σ H s) : ∀ {ds : List (PyData × PyData)} {kvs : List (Key × V)} {vs : List (Key × Value)}, FDk X.K H ds kvs → KV kvs vs → (ds.all fun q => thin q.2) = true → PyProof.V.PairsRead s.heap keyD vs ds []
  | _, [], _, hk, r, _ => by cases hk; cases r; exact .nil
  | _, _ :: _, _, hk, r, e => by
    cases hk with | cons h hs =>
    cases r with
    | @cons a b as bs r1 r2 =>
      obtain ⟨b1, b2⟩ := b
      obtain ⟨e1, e2⟩ := r1
      simp only at e1 e2
      subst e1
      rw [List.all_cons, Bool.and_eq_true] at e
      exact PyProof.V.PairsRead.cons (as := []) (bs := []) (FD.thinReads I h e2 e.1) (FDk.pairs I hs r2 e.2)
theorem keyD_reads {P : Program} {w : World} {h : Heap} (k : Key) (key : Value) (e : (mixKind P w).is k key = true) : Reads h key (keyD k) [] := by
  rcases keyIs_shape e with ⟨i, t, rfl, rfl⟩ | ⟨x, t, rfl, rfl⟩
  · exact .int i t
  · exact .str x t
theorem FD.dictReads {X : Cx} {pins : List (Addr × Obj)} {σ : L2.St} {H : Hp} {s : Shared} (I : Inv X pins σ H s) {kvs : List (PyData × PyData)} {v : V} {u : Value} (h : FD X.K H (.dict kvs) v) (r : RelV v u) (e : (kvs.all fun q => thin q.2) = true) :
    ∃ a, u = .ref a ∧ sysModules ≠ a ∧ Reads s.heap u (.dict kvs) [a] := by
  cases h with
  | @dct a o ks ds ha hk =>
    cases r
    obtain ⟨_, ne, vs, kv, dd⟩ := dk_rd I.hok (Or.inr ⟨o, ha⟩)
    exact ⟨a, rfl, fun q => by rw [q] at ne; simp at ne, PyProof.V.reads_dictOf (bs := []) keyD_reads dd (FDk.pairs I hk kv e)⟩
/-- repr of data without dicts, of a dict of thin values -/
def shows (d : PyData) : Bool := match d with
  | .dict kvs => (kvs.all fun q => thin q.2) && decide (d.depth ≤ 64)
  | d => SeqAt.shaped d
def gRepr : Sg → List Mv → Option Nw := fun S xs => match xs with
  | [x] => (x.data S).bind fun d => if shows d = true ∧ d.showable = true ∧ d.shown.length ≤ sizeLine then some (.val (.d (.str d.shown))) else none
  | _ => none
theorem data_dict {S : Sg} {x : Mv} {kvs : List (PyData × PyData)} (e : x.data S = some (.dict kvs)) : x = .d (.dict kvs) := by
  unfold Mv.data at e
  split at e
  · cases e; rfl
  · split at e
    · obtain ⟨ds, _, e3⟩ := Option.map_eq_some_iff.mp e; cases e3
    · obtain ⟨ds, _, e3⟩ := Option.map_eq_some_iff.mp e; cases e3
    · cases e
theorem c_repr (gds : X.A.guards = some []) (hu : X.A.units + 128 < cLine) : CallP X (.builtin "repr") gRepr := by
  intro pins s σ H vs us Q I rel ⟨ι, S, xs, z, hr, hx, e, q⟩
  unfold gRepr at e
  split at e
  · obtain ⟨d, e1, e2⟩ := Option.bind_eq_some_iff.mp e
    split at e2
    · rename_i c
      cases e2
      obtain ⟨c0, c2, c3⟩ := c
      obtain ⟨v, rfl, h⟩ := one_of hx
      obtain ⟨u, rfl, ru⟩ := vals1 rel
      by_cases hdd : ∃ kvs, d = .dict kvs
      · obtain ⟨kvs, rfl⟩ := hdd
        have ex := data_dict e1
        subst ex
        simp only [shows, Bool.and_eq_true, decide_eq_true_eq] at c0
        obtain ⟨a, rfl, ne, rd⟩ := FD.dictReads I h ru c0.1
        exact repr_of_reads' rd c2 (fun _ hm => ne (List.mem_singleton.mp hm)) gds (by omega) (fun _ _ h => h) (fun h' u tk k => ⟨.str _, H, I.kept k, ⟨u, rfl⟩, q _ (.str _)⟩) c3
      have c1 : SeqAt.shaped d = true := by
        unfold shows at c0
        split at c0
        · exact absurd ⟨_, rfl⟩ hdd
        · exact c0
      have dp := Mv.data_ok hr h e1 c1
      obtain ⟨as, rd⟩ := Dp.reads I d v u dp ru
      have depth := SeqAt.depth_of_shaped c1
      have tell : ∀ (h' : Heap) (t : Tok) (tk : Nat), (∀ b o, s.heap.get? b = some o → h'.get? b = some o) → EP X pins σ Q (.str d.shown t) { s with heap := h', toks := tk } :=
        fun h' t tk k => ⟨.str d.shown, H, I.kept k, ⟨t, rfl⟩, q _ (.str _)⟩
      cases rd with
      | none => exact PySem.P.repr_of_none (tell s.heap _ _ fun _ _ h => h)
      | bool b => exact PySem.P.repr_of_bool (tell s.heap _ _ fun _ _ h => h)
      | int i t => exact PySem.P.repr_of_int (by simpa [PyData.showable] using c2) (tell s.heap _ _ fun _ _ h => h)
      | str y t => exact PySem.P.repr_of_str (tell s.heap _ _ fun _ _ h => h) c3
      | list h1 h2 h3 h4 =>
        exact repr_of_reads' (Reads.list h1 h2 h3 h4) c2 (PyData.noDict_hsm (noDict_of_shaped c1)) gds (by omega) (fun _ _ h => h) (fun h' u tk k => tell h' u tk k) c3
      | tuple h1 h2 h3 h4 =>
        exact repr_of_reads' (Reads.tuple h1 h2 h3 h4) c2 (PyData.noDict_hsm (noDict_of_shaped c1)) gds (by omega) (fun _ _ h => h) (fun h' u tk k => tell h' u tk k) c3
      | dict _ _ _ _ _ => exact absurd (noDict_of_shaped c1) (by simp [PyData.hasDict])
    · cases e2
  · cases e

/-! ### subscripts and slices -/
def atM (xs : List Mv) (i : Int) : Option Mv := atI xs i
theorem atI_paired {α β : Type} {F : α → β → Prop} {xs : List α} {ys : List β} (h : Paired F xs ys) {i : Int} {x : α} (e : atI xs i = some x) : ∃ y, atI ys i = some y ∧ F x y := by
  unfold atI at e ⊢
  obtain ⟨j, e1, e2⟩ := Option.bind_eq_some_iff.mp e
  obtain ⟨y, e3, r⟩ := Paired.at h e2
  exact ⟨y, by rw [← h.length, e1]; exact e3, r⟩
def gIx : Sg → Mv → Mv → Option Mv := fun S x y => match x, y with
  | .d (.str z), .d (.int i) => if z.length ≤ sizeLine then (atI z.cps.toList i).map fun c => .d (.str ⟨#[c]⟩) else none
  | x, .d (.int i) => (x.seq S).bind fun q => atI q.2 i
  | _, _ => none
def mIx (a b : ME) : ME := fun ρ S => (a ρ S).bind fun x S1 => (b ρ S1).bind fun y S2 => match gIx S2 x y with | some z => .ok z S2 | none => .bad
theorem pm_ix {a b : Expr} {ma mb : ME} {pos : Pos} (ha : PM X W a ma) (hb : PM X W b mb) (hs : PlainIx b := by exact fun _ _ => rfl) : PM X W (.Subscript a b pos) (mIx ma mb) := by
  refine pe_imp (pe_ix ix_seq ha hb hs) fun σ H Q ⟨ι, S, ρ, hl, hr, h⟩ => ?_
  refine ⟨ι, S, ρ, hl, hr, step h fun x v ι1 H1 S1 s1 r1 hx h1 => ?_⟩
  refine ⟨ι1, S1, ρ, hl.mono s1, r1, step h1 fun y u ι2 H2 S2 s2 r2 hy h2 => ?_⟩
  have hx := hx.mono s2
  cases e : gIx S2 x y with
  | none => simp only [e] at h2; exact h2.elim
  | some z =>
    simp only [e] at h2
    have h3 : ∀ w, XV X.K ι2 H2 z w → Q w H2 := fun w hw => h2 _ _ _ (Sub.refl _ _) r2 hw
    unfold gIx at e
    split at e
    · split at e
      · rename_i c
        obtain ⟨c0, e1, rfl⟩ := Option.map_eq_some_iff.mp e
        cases hx; cases hy
        exact .inr (.inr ⟨_, _, c0, rfl, rfl, c, e1, h3 _ (.str _)⟩)
      · cases e
    · obtain ⟨⟨t, xs⟩, e1, e2⟩ := Option.bind_eq_some_iff.mp e
      obtain ⟨a, vs, rfl, h4, h5⟩ := Mv.seq_ok r2 hx e1
      obtain ⟨w, e3, r⟩ := atI_paired h5 e2
      cases hy
      cases t with
      | true => exact .inr (.inl ⟨a, vs, _, w, rfl, rfl, h4, e3, h3 w r.2⟩)
      | false => exact .inl ⟨a, vs, _, w, rfl, rfl, PlnL.sq h4, e3, h3 w r.2⟩
    · cases e
/-- a slice's parts -/
abbrev MO := Rho → Sg → Res (Option Int)
abbrev RO : Io → Hp → Option Int → Option Int → Prop := fun _ _ b c => b = c
def PMO (X : Cx) (W : WX) (e : Option Expr) (m : MO) : Prop := PO X e (tG RO X.K W m)
theorem po_imp {e : Option Expr} {t t' : TO} (h : PO X e t) (i : ∀ σ H Q, t' σ H Q → t σ H Q) : PO X e t' := ⟨fun pins s σ H Q I q => h.run pins s σ H Q I (i _ _ _ q)⟩
def mON : MO := fun _ S => .ok none S
def mOS (m : ME) : MO := fun ρ S => (m ρ S).bind fun x S1 => match x with | .d (.int i) => .ok (some i) S1 | _ => .bad
theorem pmo_none : PMO X W none mON := po_imp po_none fun σ H Q ⟨ι, S, ρ, hl, hr, h⟩ => h _ _ _ (Sub.refl _ _) hr rfl
theorem pmo_some {e : Expr} {m : ME} (h : PM X W e m) : PMO X W (some e) (mOS m) := by
  refine po_imp (po_some h) fun σ H Q ⟨ι, S, ρ, hl, hr, h⟩ => ⟨ι, S, ρ, hl, hr, step h fun x v ι1 H1 S1 s1 r1 hx h1 => ?_⟩
  split at h1
  · cases hx
    exact ⟨_, rfl, h1 _ _ _ (Sub.refl _ _) r1 rfl⟩
  · exact h1.elim
def cutM (xs : List Mv) (lo hi : Option Int) : List Mv := (xs.drop (HT.sIx xs.length 0 lo)).take (HT.sIx xs.length xs.length hi - HT.sIx xs.length 0 lo)
theorem Paired.drop {α β : Type} {F : α → β → Prop} : ∀ {xs : List α} {ys : List β} (n : Nat), Paired F xs ys → Paired F (xs.drop n) (ys.drop n)
  | _, _, 0, r => r
  | _, _, _ + 1, .nil => .nil
  | _, _, n + 1, .cons _ t => Paired.drop n t
theorem Paired.take {α β : Type} {F : α → β → Prop} : ∀ {xs : List α} {ys : List β} (n : Nat), Paired F xs ys → Paired F (xs.take n) (ys.take n)
  | _, _, 0, _ => .nil
  | _, _, _ + 1, .nil => .nil
  | _, _, n + 1, .cons r t => .cons r (Paired.take n t)
theorem cut_paired {F : Mv → V → Prop} {xs : List Mv} {ys : List V} (h : Paired F xs ys) (lo hi : Option Int) : Paired F (cutM xs lo hi) (cutV ys lo hi) := by
  unfold cutM cutV
  rw [h.length]
  exact Paired.take _ (Paired.drop _ h)
/-- a tuple's slice that is not the whole of it makes a new one; the whole is itself -/
def gSl (S : Sg) (x : Mv) (lo hi : Option Int) : Option Nw := match x with
  | .d (.str z) => if z.length ≤ sizeLine then some (.val (.d (.str (cutS z lo hi)))) else none
  | x => match x.isList S with | some xs => some (.lst (cutM xs lo hi)) | none => none
def mSl (b : Bi) (a : ME) (lo hi : MO) : ME := fun ρ S => (a ρ S).bind fun x S1 => (lo ρ S1).bind fun l S2 => (hi ρ S2).bind fun u S3 => opt (gSl S3 x l u) fun z => bear b z S3
theorem pm_sl {e : Expr} {lo hi : Option Expr} {m : ME} {ml mh : MO} {p2 pos : Pos} (b : Bi) (h : PM X W e m) (hl : PMO X W lo ml) (hh : PMO X W hi mh) : PM X W (.Subscript e (.Slice lo hi none p2) pos) (mSl b m ml mh) := by
  refine pe_imp (pe_b b (pe_slice (SlR.or sl_list sl_str) h hl hh)) fun σ H Q ⟨ι, S, ρ, hL, hr, h⟩ => ?_
  refine ⟨ι, S, ρ, hL, hr, step h fun x v ι1 H1 S1 s1 r1 hx h1 => ?_⟩
  refine ⟨ι1, S1, ρ, hL.mono s1, r1, step h1 fun l l' ι2 H2 S2 s2 r2 el h2 => ?_⟩
  refine ⟨ι2, S2, ρ, (hL.mono s1).mono s2, r2, step h2 fun u u' ι3 H3 S3 s3 r3 eu h3 => ?_⟩
  cases el; cases eu
  have hx := (hx.mono s2).mono s3
  unfold opt at h3
  cases e : gSl S3 x l u with
  | none => rw [e] at h3; exact h3.elim
  | some z =>
    rw [e] at h3
    have q := bear_raw r3 h3
    unfold gSl at e
    split at e
    · split at e
      · rename_i c
        cases e; cases hx
        exact .inr ⟨_, rfl, c, q _ (.str _)⟩
      · cases e
    · split at e
      · rename_i xs e1
        cases e
        obtain ⟨a, vs, rfl, h4, h5⟩ := Mv.isList_ok r3 hx e1
        exact .inl ⟨a, vs, rfl, h4.sq, fun p hp => q _ p (cut_paired h5 l u) hp⟩
      · cases e
theorem filt_all {α : Type} (a : Array α) : (List.range a.size).filterMap (a[·]?) = a.toList := by
  have key : ∀ n, n ≤ a.size → (List.range n).filterMap (a[·]?) = a.toList.take n := by
    intro n
    induction n with
    | zero => intro _; simp
    | succ n ih =>
      intro hn
      rw [List.range_succ, List.filterMap_append, ih (by omega), List.take_add_one]
      have : a[n]? = a.toList[n]? := by simp
      simp only [List.filterMap_cons, List.filterMap_nil, this]
      cases a.toList[n]? <;> rfl
  rw [key a.size (Nat.le_refl _)]
  exact List.take_of_length_le (by simp)
/-- turned about: a list, a text -/
def revS (z : Str) : Str := ⟨z.cps.toList.reverse.toArray⟩
theorem Paired.reverse {α β : Type} {F : α → β → Prop} {xs : List α} {ys : List β} (h : Paired F xs ys) : Paired F xs.reverse ys.reverse := by
  induction h with
  | nil => exact .nil
  | cons r t ih => rw [List.reverse_cons, List.reverse_cons]; exact ih.snoc r
def tRevS (te : TE) : TE := fun σ H Q => te σ H fun x H1 => ∃ z, x = .str z ∧ z.length ≤ sizeLine ∧ Q (.str (revS z)) H1
theorem pe_revS {e : Expr} {te : TE} {k : Nat} {p1 p2 p3 pos : Pos} (he : PE X e te) : PE X (.Subscript e (.Slice none none (some (.UnaryOp .USub (.Constant (.int 1) k p1) p2)) p3) pos) (tRevS te) := by
  refine ⟨fun pins s σ H Q I want => ?_⟩
  refine Subscript_ (thn (he.run pins s σ H _ I want) fun v s1 ⟨x, H1, I1, rel, z, ex, hz, q⟩ => ?_)
  subst ex
  obtain ⟨t, rfl⟩ := rel
  have one : PO X (some (.UnaryOp .USub (.Constant (.int 1) k p1) p2)) (tPart (tUn (rU fun i => .int (-i)) (tC (.int 1)))) := po_some (pe_un un_neg pe_int)
  refine wpAny_Slice (thn (po_none.run pins s1 σ H1 (fun o G => o = none ∧ G = H1) I1 ⟨rfl, rfl⟩) fun v1 s2 ⟨o1, G2, I2, part1, o1e, g2⟩ => ?_)
  subst o1e g2
  refine thn (po_none.run pins s2 σ G2 (fun o G => o = none ∧ G = G2) I2 ⟨rfl, rfl⟩) fun v2 s3 ⟨o2, G3, I3, part2, o2e, g3⟩ => ?_
  subst o2e g3
  refine thn (one.run pins s3 σ G3 (fun o G => o = some (-1) ∧ G = G3) I3 ⟨1, rfl, -1, rfl, rfl, rfl⟩) fun v3 s4 ⟨o3, G4, I4, part3, o3e, g4⟩ => ?_
  subst o3e g4
  obtain ⟨l1, rfl, m1⟩ := IsPart.raw part1
  obtain ⟨l2, rfl, m2⟩ := IsPart.raw part2
  obtain ⟨l3, rfl, m3⟩ := IsPart.raw part3
  have J : Inv X pins σ G4 { s4 with heap := s4.heap.push { cls := .type "slice", data := .fields #[partValue l1, partValue l2, partValue l3] } } := I4.kept (t' := s4.toks) fun b ob e => Heap.get?_push_of_some _ e
  show wpAny (model X.prog X.w) X.A (subscriptTail e (.Slice none none (some (.UnaryOp .USub (.Constant (.int 1) k p1) p2)) p3) (.str z t) (.ref s4.heap.objs.size)) (EP X pins σ Q) X.xe { s4 with heap := s4.heap.push { cls := .type "slice", data := .fields #[partValue l1, partValue l2, partValue l3] } }
  refine tail_any (ops := [.str z t, .ref s4.heap.objs.size]) (typeIs_str _ _ _) PySem.F.slot_str_getitem.lookup ?_ (by with_unfolding_all rfl)
  refine wpAny_getItem_str_slice (l := l1) (u := l2) (st := l3) ⟨_, Heap.get?_push_size _ rfl, rfl, rfl⟩ (by rw [m3]; rfl) ?_
  have pick : ((slicePicked z l1 l2 l3).filterMap (z.cps[·]?)).toArray = z.cps.toList.reverse.toArray := by
    unfold slicePicked
    rw [m1, m2, m3]
    show ((sliceRange ((z.length : Int) - 1) (-1) (-1)).filterMap (z.cps[·]?)).toArray = _
    have := PySem.W.krv_pick
    rw [PySem.W.krv_sliceRange, PySem.W.krv_range, List.filterMap_reverse]
    congr 2
    show (List.range z.cps.size).filterMap (z.cps[·]?) = z.cps.toList
    exact filt_all z.cps
  unfold sliceMade
  rw [m3, pick]
  exact ⟨by show z.cps.toList.reverse.toArray.size ≤ sizeLine; simpa [Str.length] using hz, .str (revS z), G4, J.tok _, ⟨_, rfl⟩, q⟩
end
end MM
end
section
set_option Elab.async false
set_option linter.all false
set_option maxRecDepth 100000
set_option maxHeartbeats 4000000
set_option autoImplicit false
namespace MM
open PySem PySem.Spec PyProof.Rows L2

section
variable {X : Cx} {W : WX}
/-! ### turned about -/
theorem pe_or {e : Expr} {t t' : TE} (h : PE X e t) (h' : PE X e t') : PE X e (fun σ H Q => t σ H Q ∨ t' σ H Q) := ⟨fun pins s σ H Q I q => by
  rcases q with q | q
  · exact h.run pins s σ H Q I q
  · exact h'.run pins s σ H Q I q⟩
def mRev (b : Bi) (m : ME) : ME := fun ρ S => (m ρ S).bind fun x S1 => match x with
  | .d (.str z) => if z.length ≤ sizeLine then .ok (.d (.str (revS z))) S1 else .bad
  | x => match x.isList S1 with | some xs => bear b (.lst xs.reverse) S1 | none => .bad
theorem pm_rev {e : Expr} {m : ME} {k : Nat} {p1 p2 p3 pos : Pos} (b : Bi) (h : PM X W e m) : PM X W (.Subscript e (.Slice none none (some (.UnaryOp .USub (.Constant (.int 1) k p1) p2)) p3) pos) (mRev b m) := by
  refine pe_imp (pe_or (pe_revS h) (pe_b b (pe_revL h))) fun σ H Q ⟨ι, S, ρ, hl, hr, h⟩ => ?_
  cases em : m ρ S with
  | bad => unfold mRev at h; rw [em] at h; exact h.elim
  | exc ex S' =>
    unfold mRev at h; rw [em] at h
    exact .inl ⟨ι, S, ρ, hl, hr, by rw [em]; exact h⟩
  | ok x S1 =>
    unfold mRev at h; rw [em] at h
    simp only [Res.bind] at h
    split at h
    · rename_i z
      split at h
      · rename_i c
        refine .inl ⟨ι, S, ρ, hl, hr, ?_⟩
        rw [em]
        intro ι1 H1 v s1 r1 hx
        cases hx
        exact ⟨_, rfl, c, h _ _ _ s1 r1 (.str _)⟩
      · exact h.elim
    · split at h
      · rename_i xs e1
        refine .inr ⟨ι, S, ρ, hl, hr, ?_⟩
        rw [em]
        intro ι1 H1 v s1 r1 hx
        obtain ⟨a, vs, rfl, h1, h2⟩ := Mv.isList_ok r1 hx e1
        exact ⟨a, vs, rfl, h1.sq, fun p hp => bear_raw (n := .lst xs.reverse) r1 (h.sub s1) _ p (Paired.reverse h2) hp⟩
      · exact h.elim

/-! ### methods of built-in things -/
def tyM (T : String) (x : Mv) (S : Sg) : Bool := match x with
  | .d (.str _) => T == "str"
  | x => match x.isList S with | some _ => T == "list" | none => false
theorem tyM_ok {K : PySem.W.Frag} {ι : Io} {S : Sg} {H : Hp} (hr : Rl K ι S H) {T : String} {x : Mv} {v : V} (hx : XV K ι H x v) (e : tyM T x S = true) : tyV K T v H := by
  unfold tyM at e
  split at e
  · cases hx
    exact (beq_iff_eq.mp e)
  · split at e
    · rename_i xs e1
      obtain ⟨a, vs, rfl, h1, h2⟩ := Mv.isList_ok hr hx e1
      exact .inl ⟨beq_iff_eq.mp e, vs, h1.sq⟩
    · cases e
/-- what is told, the store as it is -/
def MtP (X : Cx) (id : String) (g : Sg → Mv → List Mv → Option Nw) : Prop :=
  MtR X id fun v vs H Q => ∃ ι S x xs z, Rl X.K ι S H ∧ XV X.K ι H x v ∧ XVs X.K ι H xs vs ∧ g S x xs = some z ∧ Raw X.K ι H Q z
/-- what is told, and the store behind -/
def MtU (X : Cx) (id : String) (g : Sg → Mv → List Mv → Option (Mv × Sg)) : Prop :=
  MtR X id fun v vs H Q => ∃ ι S x xs z S', Rl X.K ι S H ∧ XV X.K ι H x v ∧ XVs X.K ι H xs vs ∧ g S x xs = some (z, S') ∧ ∀ H' w, Sub ι H ι H' → Rl X.K ι S' H' → XV X.K ι H' z w → Q w H'
theorem MtR.imp {id : String} {r r' : V → List V → Hp → VK → Prop} (h : MtR X id r) (i : ∀ x xs H Q, r' x xs H Q → r x xs H Q) : MtR X id r' := fun pins s σ H x xs v us Q I rx rs q => h pins s σ H x xs v us Q I rx rs (i _ _ _ _ q)
def mBM (b : Bi) (T : String) (g : Sg → Mv → List Mv → Option Nw) (o : ME) (a : MA) : ME := fun ρ S => (o ρ S).bind fun x S1 => if tyM T x S1 = true then (a ρ S1).bind fun xs S2 => opt (g S2 x xs) fun z => bear b z S2 else .bad
def mBU (T : String) (g : Sg → Mv → List Mv → Option (Mv × Sg)) (o : ME) (a : MA) : ME := fun ρ S => (o ρ S).bind fun x S1 => if tyM T x S1 = true then (a ρ S1).bind fun xs S2 => match g S2 x xs with | some (z, S') => .ok z S' | none => .bad else .bad
theorem bm_core {T : String} {g : Sg → Mv → List Mv → Option Nw} {mo : ME} {ma : MA} {b : Bi} {σ : L2.St} {H : Hp} {Q : VK} (h : tG (XV X.K) X.K W (mBM b T g mo ma) σ H Q) :
    tBM X.K T (fun v vs H Q => ∃ ι S x xs z, Rl X.K ι S H ∧ XV X.K ι H x v ∧ XVs X.K ι H xs vs ∧ g S x xs = some z ∧ Raw X.K ι H Q z) (tG (XV X.K) X.K W mo) (tG (XVs X.K) X.K W ma) σ H (Qf b Q) := by
  obtain ⟨ι, S, ρ, hl, hr, h⟩ := h
  refine ⟨ι, S, ρ, hl, hr, step h fun x v ι1 H1 S1 s1 r1 hx h1 => ?_⟩
  by_cases c : tyM T x S1 = true
  · rw [if_pos c] at h1
    refine ⟨tyM_ok r1 hx c, ι1, S1, ρ, hl.mono s1, r1, step h1 fun xs vs ι2 H2 S2 s2 r2 hs h2 => ?_⟩
    unfold opt at h2
    cases e : g S2 x xs with
    | none => rw [e] at h2; exact h2.elim
    | some z =>
      rw [e] at h2
      exact ⟨ι2, S2, x, xs, z, r2, hx.mono s2, hs, e, bear_raw r2 h2⟩
  · rw [if_neg c] at h1; exact h1.elim
theorem bu_core {T : String} {g : Sg → Mv → List Mv → Option (Mv × Sg)} {mo : ME} {ma : MA} {σ : L2.St} {H : Hp} {Q : VK} (h : tG (XV X.K) X.K W (mBU T g mo ma) σ H Q) :
    tBM X.K T (fun v vs H Q => ∃ ι S x xs z S', Rl X.K ι S H ∧ XV X.K ι H x v ∧ XVs X.K ι H xs vs ∧ g S x xs = some (z, S') ∧ ∀ H' w, Sub ι H ι H' → Rl X.K ι S' H' → XV X.K ι H' z w → Q w H') (tG (XV X.K) X.K W mo) (tG (XVs X.K) X.K W ma) σ H Q := by
  obtain ⟨ι, S, ρ, hl, hr, h⟩ := h
  refine ⟨ι, S, ρ, hl, hr, step h fun x v ι1 H1 S1 s1 r1 hx h1 => ?_⟩
  by_cases c : tyM T x S1 = true
  · rw [if_pos c] at h1
    refine ⟨tyM_ok r1 hx c, ι1, S1, ρ, hl.mono s1, r1, step h1 fun xs vs ι2 H2 S2 s2 r2 hs h2 => ?_⟩
    cases e : g S2 x xs with
    | none => simp only [e] at h2; exact h2.elim
    | some p =>
      obtain ⟨z, S'⟩ := p
      simp only [e] at h2
      exact ⟨ι2, S2, x, xs, z, S', r2, hx.mono s2, hs, e, fun H' w s r hz => h2 _ _ _ s r hz⟩
  · rw [if_neg c] at h1; exact h1.elim
section
variable {o e : Expr} {es : List Expr} {name : Str} {apos cpos : Pos} {T id : String} {mo : ME} {ma : MA}
theorem pm_bm {g : Sg → Mv → List Mv → Option Nw} (b : Bi) (pa : PlainAttrs T) (slot : Slot T name id) (hty : typeOf (.builtin id) = pure (.type "method_descriptor")) (hm : MtP X id g) (ho : PM X W o mo) (ha : PL X W (e :: es) ma)
    (hbase : attributeBase o name X.env (eval o X.env) = eval o X.env := by rfl)
    (hfew : ((backTo cpos (starEach (e :: es) X.env)).all (fun x => !x.1) && (backToKw cpos (keywordEach [] X.env)).all (fun x => x.1.isSome) && decide ((e :: es).length + ([] : List Keyword).length + (if ([] : List Keyword).isEmpty then 0 else 1) < 30)) = true := by rfl)
    (hline : (apos.endLine == cpos.line) = true := by rfl) (hs : starEach (e :: es) X.env = (false, eval e X.env) :: starEach es X.env := by rfl) (hplain : (backTo cpos (starEach es X.env)).any (·.1) = false := by rfl) :
    PM X W (.Call (.Attribute o name apos) (e :: es) [] cpos) (mBM b T g mo ma) :=
  pe_imp (pe_b b (pe_bm pa slot hty hm ho ha hbase hfew hline hs hplain)) fun σ H Q h => bm_core h
theorem pm_bu {g : Sg → Mv → List Mv → Option (Mv × Sg)} (pa : PlainAttrs T) (slot : Slot T name id) (hty : typeOf (.builtin id) = pure (.type "method_descriptor")) (hm : MtU X id g) (ho : PM X W o mo) (ha : PL X W (e :: es) ma)
    (hbase : attributeBase o name X.env (eval o X.env) = eval o X.env := by rfl)
    (hfew : ((backTo cpos (starEach (e :: es) X.env)).all (fun x => !x.1) && (backToKw cpos (keywordEach [] X.env)).all (fun x => x.1.isSome) && decide ((e :: es).length + ([] : List Keyword).length + (if ([] : List Keyword).isEmpty then 0 else 1) < 30)) = true := by rfl)
    (hline : (apos.endLine == cpos.line) = true := by rfl) (hs : starEach (e :: es) X.env = (false, eval e X.env) :: starEach es X.env := by rfl) (hplain : (backTo cpos (starEach es X.env)).any (·.1) = false := by rfl) :
    PM X W (.Call (.Attribute o name apos) (e :: es) [] cpos) (mBU T g mo ma) :=
  pe_imp (pe_bm pa slot hty hm ho ha hbase hfew hline hs hplain) fun σ H Q h => bu_core h
theorem pm_bu0 {g : Sg → Mv → List Mv → Option (Mv × Sg)} (pa : PlainAttrs T) (slot : Slot T name id) (hty : typeOf (.builtin id) = pure (.type "method_descriptor")) (hm : MtU X id g) (ho : PM X W o mo)
    (hbase : attributeBase o name X.env (eval o X.env) = eval o X.env := by rfl) (hline : (apos.endLine == cpos.line) = true := by rfl) : PM X W (.Call (.Attribute o name apos) [] [] cpos) (mBU T g mo mNil) := by
  refine pe_imp (pe_bm0 pa slot hty hm ho hbase hline) fun σ H Q h => ?_
  obtain ⟨ι, S, ρ, hl, hr, h⟩ := bu_core h
  refine ⟨ι, S, ρ, hl, hr, h.imp fun v H1 ⟨h1, h2⟩ => ⟨h1, ?_⟩⟩
  obtain ⟨ι2, S2, ρ2, _, r2, h3⟩ := h2
  exact h3 _ _ _ (Sub.refl _ _) r2 .nil
theorem pm_bm0 {g : Sg → Mv → List Mv → Option Nw} (b : Bi) (pa : PlainAttrs T) (slot : Slot T name id) (hty : typeOf (.builtin id) = pure (.type "method_descriptor")) (hm : MtP X id g) (ho : PM X W o mo)
    (hbase : attributeBase o name X.env (eval o X.env) = eval o X.env := by rfl) (hline : (apos.endLine == cpos.line) = true := by rfl) : PM X W (.Call (.Attribute o name apos) [] [] cpos) (mBM b T g mo mNil) := by
  refine pe_imp (pe_b b (pe_bm0 pa slot hty hm ho hbase hline)) fun σ H Q h => ?_
  obtain ⟨ι, S, ρ, hl, hr, h⟩ := bm_core h
  refine ⟨ι, S, ρ, hl, hr, h.imp fun v H1 ⟨h1, h2⟩ => ⟨h1, ?_⟩⟩
  obtain ⟨ι2, S2, ρ2, _, r2, h3⟩ := h2
  exact h3 _ _ _ (Sub.refl _ _) r2 .nil
end
/-- a cell that a value names -/
def Mv.cell (S : Sg) (x : Mv) : Option (Nat × Bool × Mo) := match x with
  | .ref i => match S[i]? with | some (false, o) => some (i, false, o) | _ => none
  | .own i => match S[i]? with | some (true, o) => some (i, true, o) | _ => none
  | _ => none
theorem Mv.cell_ok {K : PySem.W.Frag} {ι : Io} {S : Sg} {H : Hp} (hr : Rl K ι S H) {x : Mv} {v : V} (hx : XV K ι H x v) {i : Nat} {b : Bool} {o : Mo} (e : x.cell S = some (i, b, o)) : ∃ a, v = .ref a ∧ ι[i]? = some (b, a) ∧ S[i]? = some (b, o) ∧ OV K ι H a o := by
  unfold Mv.cell at e
  split at e
  · obtain ⟨a, h1, rfl⟩ := hx
    split at e
    · rename_i e1
      cases e
      exact ⟨a, rfl, h1, e1, hr.cell _ _ _ _ e1 h1⟩
    · cases e
  · obtain ⟨a, h1, rfl⟩ := hx
    split at e
    · rename_i e1
      cases e
      exact ⟨a, rfl, h1, e1, hr.cell _ _ _ _ e1 h1⟩
    · cases e
  · cases e
def uAppend : Sg → Mv → List Mv → Option (Mv × Sg) := fun S x xs => match xs with
  | [y] => match x.cell S with
    | some (i, b, .lst zs) => if y.free = true ∧ zs.length < sizeLine then some (.d .none, S.set i (b, .lst (zs ++ [y]))) else none
    | _ => none
  | _ => none
theorem XCs.upd1 {K : PySem.W.Frag} {ι : Io} {H : Hp} {a : Addr} {u v : HO} {xs : List Mv} {vs : List V} (hv : H a = some v) (m : Mut (some v)) (h : XCs K ι H xs vs) : XCs K ι (upd H a u) xs vs := XCs.grown ⟨[], (List.append_nil _).symm⟩ (Grow.write hv m) h
theorem XC.upd1 {K : PySem.W.Frag} {ι : Io} {H : Hp} {a : Addr} {u v : HO} {x : Mv} {w : V} (hv : H a = some v) (m : Mut (some v)) (h : XC K ι H x w) : XC K ι (upd H a u) x w := ⟨h.1, h.2.grown ⟨[], (List.append_nil _).symm⟩ (Grow.write hv m)⟩
theorem u_append : MtU X "list.append" uAppend := by
  refine MtR.imp mt_append fun v vs H Q ⟨ι, S, x, xs, z, S', hr, hx, hxs, e, q⟩ => ?_
  unfold uAppend at e
  split at e
  · rename_i y
    split at e
    · rename_i i b zs e1
      split at e
      · rename_i c
        cases e
        obtain ⟨a, rfl, h1, h2, ws, h3, h4⟩ := Mv.cell_ok hr hx e1
        obtain ⟨w, rfl, hy⟩ := one_of hxs
        obtain ⟨r2, s2⟩ := hr.put (u := .lst (ws ++ [w])) (o := .lst (zs ++ [y])) ⟨_, h2⟩ h1 h3 trivial ⟨_, upd_same, Paired.append (XCs.upd1 h3 trivial h4) (.cons (XC.upd1 h3 trivial ⟨c.1, hy⟩) .nil)⟩
        exact ⟨a, ws, w, rfl, rfl, h3, by rw [← h4.length]; exact c.2, q _ _ s2 r2 .non⟩
      · cases e
    · cases e
  · cases e
theorem Paired.dropLast {α β : Type} {F : α → β → Prop} : ∀ {xs : List α} {ys : List β}, Paired F xs ys → Paired F xs.dropLast ys.dropLast
  | _, _, .nil => .nil
  | _, _, .cons _ .nil => .nil
  | _, _, .cons r (.cons r2 t) => .cons r (Paired.dropLast (.cons r2 t))
def uPop : Sg → Mv → List Mv → Option (Mv × Sg) := fun S x xs => match xs with
  | [] => match x.cell S with
    | some (i, b, .lst zs) => (zs[zs.length - 1]?).map fun y => (y, S.set i (b, .lst zs.dropLast))
    | _ => none
  | [.d (.int k)] => match x.cell S with
    | some (i, b, .lst zs) => if -(2 ^ 63) ≤ k ∧ k < 2 ^ 63 then (seqIndex? k zs.length).bind fun j => (zs[j]?).map fun y => (y, S.set i (b, .lst (zs.eraseIdx j))) else none
    | _ => none
  | _ => none
theorem Paired.erase {α β : Type} {F : α → β → Prop} : ∀ {xs : List α} {ys : List β} (n : Nat), Paired F xs ys → Paired F (xs.eraseIdx n) (ys.eraseIdx n)
  | _, _, _, .nil => .nil
  | _, _, 0, .cons r t => t
  | _, _, n + 1, .cons r t => .cons r (Paired.erase n t)
theorem MtR.or2 {id : String} {r r' : V → List V → Hp → VK → Prop} (h : MtR X id r) (h' : MtR X id r') : MtR X id (fun x xs H Q => r x xs H Q ∨ r' x xs H Q) := fun pins s σ H x xs v us Q I rx rs q => by
  rcases q with q | q
  · exact h pins s σ H x xs v us Q I rx rs q
  · exact h' pins s σ H x xs v us Q I rx rs q
theorem u_pop : MtU X "list.pop" uPop := by
  refine MtR.imp (MtR.or2 mt_pop mt_popAt) fun v vs H Q ⟨ι, S, x, xs, z, S', hr, hx, hxs, e, q⟩ => ?_
  unfold uPop at e
  split at e
  · split at e
    · rename_i i b zs e1
      obtain ⟨y, e2, e3⟩ := Option.map_eq_some_iff.mp e
      cases e3
      obtain ⟨a, rfl, h1, h2, ws, h3, h4⟩ := Mv.cell_ok hr hx e1
      cases hxs
      obtain ⟨w, e4, hw⟩ := Paired.at h4 e2
      obtain ⟨r2, s2⟩ := hr.put (u := .lst ws.dropLast) (o := .lst zs.dropLast) ⟨_, h2⟩ h1 h3 trivial ⟨_, upd_same, Paired.dropLast (XCs.upd1 h3 trivial h4)⟩
      exact .inl ⟨a, ws, w, rfl, rfl, h3, by rw [← h4.length]; exact e4, q _ _ s2 r2 (hw.2.mono s2)⟩
    · cases e
  · rename_i k
    split at e
    · rename_i i b zs e1
      split at e
      · rename_i c
        obtain ⟨j, e2, e3⟩ := Option.bind_eq_some_iff.mp e
        obtain ⟨y, e4, e5⟩ := Option.map_eq_some_iff.mp e3
        cases e5
        obtain ⟨a, rfl, h1, h2, ws, h3, h4⟩ := Mv.cell_ok hr hx e1
        obtain ⟨w0, rfl, hk⟩ := one_of hxs
        cases hk
        obtain ⟨w, e6, hw⟩ := Paired.at h4 e4
        obtain ⟨r2, s2⟩ := hr.put (u := .lst (ws.eraseIdx j)) (o := .lst (zs.eraseIdx j)) ⟨_, h2⟩ h1 h3 trivial ⟨_, upd_same, Paired.erase j (XCs.upd1 h3 trivial h4)⟩
        exact .inr ⟨a, ws, k, j, w, rfl, rfl, h3, c.1, c.2, by rw [← h4.length]; exact e2, e6, q _ _ s2 r2 (hw.2.mono s2)⟩
      · cases e
    · cases e
  · cases e
/-- extend by a list of any kind -/
def rExtL (K : PySem.W.Frag) : V → List V → Hp → VK → Prop := fun x vs H Q => ∃ l b xs zs, x = .ref l ∧ vs = [.ref b] ∧ H l = some (.lst xs) ∧ PlnL K H b zs ∧ xs.length + zs.length ≤ sizeLine ∧ Q .non (upd H l (.lst (xs ++ zs)))
theorem mt_extL : MtR X "list.extend" (rExtL X.K) := by
  intro pins s σ H x vs v us Q I rx rv h
  obtain ⟨l, b, xs, zs, rfl, rfl, hH, hB, hz, q⟩ := h
  cases rx
  obtain ⟨u, rfl, ru⟩ := rv.one
  cases ru
  obtain ⟨few, its, n, r, len1, e1⟩ := I.lstM hH
  obtain ⟨its2, n2, e2, r2, few2⟩ := PlnL.obj I hB
  have len2 := r2.length
  have fits : its.toArray.size + its2.toArray.size ≤ sizeLine := by rw [List.size_toArray, List.size_toArray]; omega
  have short : ¬ (!its.toArray.isEmpty && Builtin.List.listTooLong (its.toArray.size + its2.toArray.size)) = true := by
    rw [notLongL fits, Bool.and_false]
    exact Bool.false_ne_true
  refine call_meets F.slot_list_extend ⟨_, e1, rfl⟩ F.entry_list_extend (F.args_list_extend_2 _ _) (AutoSeq1.list_extend_list_list_0 l its.toArray n b its2.toArray n2 short (by rw [List.size_toArray]; omega) (by omega)) ⟨e1, e2, ?_⟩
  exact ⟨.non, _, I.lset (its' := its ++ its2) hH e1 (by simp) (r.append r2) (by rw [List.length_append]; omega), rfl, q⟩
def uExtend : Sg → Mv → List Mv → Option (Mv × Sg) := fun S x xs => match xs with
  | [y] => match x.cell S, y.isList S with
    | some (i, b, .lst zs), some ys => if zs.length + ys.length ≤ sizeLine then some (.d .none, S.set i (b, .lst (zs ++ ys))) else none
    | _, _ => none
  | _ => none
theorem u_extend : MtU X "list.extend" uExtend := by
  refine MtR.imp mt_extL fun v vs H Q ⟨ι, S, x, xs, z, S', hr, hx, hxs, e, q⟩ => ?_
  unfold uExtend at e
  split at e
  · rename_i y
    split at e
    · rename_i i b zs ys e1 e2
      split at e
      · rename_i c
        cases e
        obtain ⟨a, rfl, h1, h2, ws, h3, h4⟩ := Mv.cell_ok hr hx e1
        obtain ⟨w, rfl, hy⟩ := one_of hxs
        obtain ⟨a2, ws2, rfl, h5, h6⟩ := Mv.isList_ok hr hy e2
        obtain ⟨r2, s2⟩ := hr.put (u := .lst (ws ++ ws2)) (o := .lst (zs ++ ys)) ⟨_, h2⟩ h1 h3 trivial ⟨_, upd_same, Paired.append (XCs.upd1 h3 trivial h4) (XCs.upd1 h3 trivial h6)⟩
        exact ⟨a, a2, ws, ws2, rfl, rfl, h3, h5, by rw [← h4.length, ← h6.length]; exact c, q _ _ s2 r2 .non⟩
      · cases e
    · cases e
  · cases e
/-! ### a list's item is stored -/
def setIx (S : Sg) (x y : Mv) (z : Mv) : Option Sg := match y with
  | .d (.int k) => match x.cell S with
    | some (i, b, .lst zs) => if z.free = true then (ixN zs.length k).map fun j => S.set i (b, .lst (zs.set j z)) else none
    | _ => none
  | _ => none
theorem Paired.set {α β : Type} {F : α → β → Prop} {x : α} {y : β} (r : F x y) : ∀ {xs : List α} {ys : List β} (n : Nat), Paired F xs ys → Paired F (xs.set n x) (ys.set n y)
  | _, _, _, .nil => .nil
  | _, _, 0, .cons _ t => .cons r t
  | _, _, n + 1, .cons q t => .cons q (Paired.set r n t)
def mSetIx (v o i : ME) : MS := fun ρ S => (v ρ S).go ρ fun z S1 => (o ρ S1).go ρ fun x S2 => (i ρ S2).go ρ fun y S3 => match setIx S3 x y z with | some S4 => .nx ρ S4 | none => .bad
theorem pms_setIx {o i e : Expr} {mv mo mi : ME} {p pos : Pos} (hv : PM X W e mv) (ho : PM X W o mo) (hi : PM X W i mi)
    (ha : ∀ v, assign (.Subscript o i p) X.env v = (do
      let ov ← holding [v] (eval o X.env)
      let iv ← holding [v, ov] (eval i X.env)
      standAt p
      holding [v, ov, iv] (setItem ov iv v)
      release [v, ov, iv] []) := by intro _; rfl)
    (hs : swapsWithSole [.Subscript o i p] e pos.line X.env = pure false := by rfl) (hw : swappedStores [.Subscript o i p] e X.env = pure none := by rfl)
    (h1 : (assignEach [.Subscript o i p] X.env).map (·.2) = [assign (.Subscript o i p) X.env] := by rfl) : PMS X W (.Assign [.Subscript o i p] e pos) (mSetIx mv mo mi) := by
  refine ps_imp (ps_asg hv (pg_sub ho hi set_list ha) hs hw h1) fun D σ H ⟨ι, S, ρ, hl, hr, h⟩ => ?_
  refine ⟨ι, S, ρ, hl, hr, stepS h hl fun z w ι1 H1 S1 s1 r1 hz h1 => ?_⟩
  refine ⟨ι1, S1, ρ, hl.mono s1, r1, stepS h1 (hl.mono s1) fun x v ι2 H2 S2 s2 r2 hx h2 => ?_⟩
  have hl2 := (hl.mono s1).mono s2
  refine ⟨ι2, S2, ρ, hl2, r2, stepS h2 hl2 fun y u ι3 H3 S3 s3 r3 hy h3 => ?_⟩
  have hx := hx.mono s3
  have hz := (hz.mono s2).mono s3
  cases e : setIx S3 x y z with
  | none => simp only [e] at h3; exact h3.elim
  | some S4 =>
    simp only [e] at h3
    unfold setIx at e
    split at e
    · rename_i k
      split at e
      · rename_i i b zs e1
        split at e
        · rename_i c
          obtain ⟨j, e2, e3⟩ := Option.map_eq_some_iff.mp e
          subst e3
          obtain ⟨a, rfl, q1, q2, ws, q3, q4⟩ := Mv.cell_ok r3 hx e1
          cases hy
          obtain ⟨r4, s4⟩ := r3.put (u := .lst (ws.set j w)) (o := .lst (zs.set j z)) ⟨_, q2⟩ q1 q3 trivial ⟨_, upd_same, Paired.set (XC.upd1 q3 trivial ⟨c, hz⟩) j (XCs.upd1 q3 trivial q4)⟩
          exact ⟨a, ws, k, j, rfl, rfl, q3, by rw [← q4.length]; exact e2, h3 _ _ _ s4 r4 ((hl2.mono s3).mono s4)⟩
        · cases e
      · cases e
    · cases e

/-! ### texts' methods -/
def gJoin : Sg → Mv → List Mv → Option Nw := fun S x xs => match x, xs with
  | .d (.str a), [y] => (y.seq S).bind fun q => (strsM q.2).bind fun ys => if (ys.map (·.length)).sum + ys.length * a.length ≤ 16777216 then some (.val (.d (.str (Txt.join a ys)))) else none
  | _, _ => none
theorem m_join : MtP X "str.join" gJoin := by
  refine MtR.imp mt_join fun v vs H Q ⟨ι, S, x, xs, z, hr, hx, hxs, e, q⟩ => ?_
  unfold gJoin at e
  split at e
  · obtain ⟨⟨t, ms⟩, e1, e2⟩ := Option.bind_eq_some_iff.mp e
    obtain ⟨ys, e3, e4⟩ := Option.bind_eq_some_iff.mp e2
    split at e4
    · rename_i c
      cases e4; cases hx
      obtain ⟨w, rfl, hy⟩ := one_of hxs
      obtain ⟨a, ws, rfl, h1, h2⟩ := Mv.seq_ok hr hy e1
      have es := strs_ok h2 e3
      subst es
      refine ⟨_, a, ys, rfl, rfl, ?_, c, q _ (.str _)⟩
      cases t with
      | true => exact .inr h1
      | false => exact .inl (PlnL.sq h1)
    · cases e4
  · cases e
/-- the place of a text in a text, or a ValueError -/
def exVal : Ex := ⟨.type "ValueError", none⟩
def mIndex (o : ME) (a : MA) : ME := fun ρ S => (o ρ S).bind fun x S1 => match x with
  | .d (.str z) => (a ρ S1).bind fun xs S2 => match xs with
    | [.d (.str y)] => match Txt.index0 z y with | some k => .ok (.d (.int (k : Nat))) S2 | none => .exc exVal S2
    | _ => .bad
  | _ => .bad
theorem pm_index {o e : Expr} {mo : ME} {ma : MA} {apos cpos : Pos} (hc : X.calm = true) (tk : Takes X W) (ho : PM X W o mo) (ha : PL X W [e] ma)
    (hbase : attributeBase o "index" X.env (eval o X.env) = eval o X.env := by rfl)
    (hfew : ((backTo cpos (starEach [e] X.env)).all (fun x => !x.1) && (backToKw cpos (keywordEach [] X.env)).all (fun x => x.1.isSome) && decide ([e].length + ([] : List Keyword).length + (if ([] : List Keyword).isEmpty then 0 else 1) < 30)) = true := by rfl)
    (hline : (apos.endLine == cpos.line) = true := by rfl) (hs : starEach [e] X.env = (false, eval e X.env) :: starEach [] X.env := by rfl) (hplain : (backTo cpos (starEach [] X.env)).any (·.1) = false := by rfl) :
    PM X W (.Call (.Attribute o "index" apos) [e] [] cpos) (mIndex mo ma) := by
  refine pe_imp (pe_bmS PySem.F.plainAttrs_str PySem.F.slot_str_index PySem.F.type_str_index (mt_indexX hc tk) ho ha hbase hfew hline hs hplain) fun σ H Q ⟨ι, S, ρ, hl, hr, h⟩ => ?_
  refine ⟨ι, S, ρ, hl, hr, step h fun x v ι1 H1 S1 s1 r1 hx h1 => ?_⟩
  split at h1
  · rename_i z
    cases hx
    refine ⟨rfl, ι1, S1, ρ, hl.mono s1, r1, step h1 fun xs vs ι2 H2 S2 s2 r2 hs h2 => ?_⟩
    split at h2
    · rename_i y
      obtain ⟨w, rfl, hy⟩ := one_of hs
      cases hy
      refine ⟨z, y, rfl, rfl, fun k ek => ?_, fun en d => ?_⟩
      · simp only [ek] at h2
        exact h2 _ _ _ (Sub.refl _ _) r2 (.int _)
      · simp only [en] at h2
        exact h2 _ _ d (Sub.refl _ _) r2 trivial
    · exact h2.elim
  · exact h1.elim

/-! ### two names at once -/
def mPar (i j : Nat) (a : MA) : MS := fun ρ S => (a ρ S).go ρ fun xs S1 => match xs with | [x, y] => .nx ((ρ.set i (some x)).set j (some y)) S1 | _ => .bad
theorem pms_par {i j : Nat} {x y : Str} {a b : Expr} {ma : MA} {px py pt pos : Pos} {kt k2 : Nat} {pt2 : Pos} (hc : X.calm = true) (hN : X.N.Nodup) (hi : X.N[i]? = some x) (hj : X.N[j]? = some y) (hij : i ≠ j)
    (hx : X.env.scope.names.lookup x = some .local) (hy : X.env.scope.names.lookup y = some .local) (ha : PL X W [a, b] ma) (h : PS X (.Assign [.Tuple [.Name x px, .Name y py] kt pt] (.Tuple [a, b] k2 pt2) pos) (tPar i j (tG (XVs X.K) X.K W ma))) :
    PMS X W (.Assign [.Tuple [.Name x px, .Name y py] kt pt] (.Tuple [a, b] k2 pt2) pos) (mPar i j ma) := by
  refine ps_imp h fun D σ H ⟨ι, S, ρ, hl, hr, h⟩ => ⟨ι, S, ρ, hl, hr, stepS h hl fun xs vs ι1 H1 S1 s1 r1 hs h1 => ?_⟩
  split at h1
  · obtain ⟨v, u, rfl, q1, q2⟩ := two_of hs
    exact ⟨v, u, rfl, h1 _ _ _ (Sub.refl _ _) r1 (((hl.mono s1).set i q1).set j q2)⟩
  · exact h1.elim

/-! ### calls with keywords -/
def PLK (X : Cx) (W : WX) (kws : List Keyword) (m : MA) : Prop := PK X kws (tG (XVs X.K) X.K W m)
theorem pk_imp {kws : List Keyword} {t t' : TA} (h : PK X kws t) (i : ∀ σ H Q, t' σ H Q → t σ H Q) : PK X kws t' := ⟨fun pos pins s σ H Q I q => h.run pos pins s σ H Q I (i _ _ _ q)⟩
theorem plk_nil : PLK X W [] mNil := pk_imp pk_nil fun σ H Q ⟨ι, S, ρ, hl, hr, h⟩ => h _ _ _ (Sub.refl _ _) hr .nil
theorem plk_cons {nm : Option Str} {e : Expr} {kp : Pos} {kws : List Keyword} {m : ME} {ms : MA} (h : PM X W e m) (hs : PLK X W kws ms) : PLK X W (⟨nm, e, kp⟩ :: kws) (mCons m ms) := by
  refine pk_imp (pk_cons h hs) fun σ H Q ⟨ι, S, ρ, hl, hr, h⟩ => ?_
  refine ⟨ι, S, ρ, hl, hr, step h fun x v ι1 H1 S1 s1 r1 hx h1 => ?_⟩
  refine ⟨ι1, S1, ρ, hl.mono s1, r1, step h1 fun y u ι2 H2 S2 s2 r2 hy h2 => ?_⟩
  exact h2 _ _ _ (Sub.refl _ _) r2 (.cons (hx.mono s2) hy)
/-- how keywords bind -/
theorem fun_bindsG {K : PySem.W.Frag} {x qual : Str} {st : Stmt} {f : Addr} {fd : FuncData} {ps : List Str} (F : Fun K x qual st f fd) {args : Args} {r : List Value} (s : Shared)
    (h : ∀ (kV doc pm : Value) (an : Option Addr) (cdv ct : Value), bindArgs (PySem.W.fnOf x qual (defArgs st) (defBody st) (defScope st) .none kV doc pm an cdv ct) args = pure (ps.zip r)) : BindsTo s fd args (ps.zip r) := by
  obtain ⟨oc, od, kV, doc, pm, an, cdv, ct, osl, rfl, lk, hcd⟩ := F.ex
  exact .of_eq (h kV doc pm an cdv ct)
/-- where an argument comes from: a place, a keyword, a default -/
inductive Sr where
  | p (i : Nat) | k (i : Nat) | v (i : Nat)
def Sr.get {α : Type} (us ws ds : List α) : Sr → Option α
  | .p i => us[i]?
  | .k i => ws[i]?
  | .v i => ds[i]?
def laid {α : Type} (us ws ds : List α) : List Sr → Option (List α)
  | [] => some []
  | o :: r => (o.get us ws ds).bind fun x => (laid us ws ds r).map (x :: ·)
theorem Paired.at' {α β : Type} {F : α → β → Prop} {xs : List α} {ys : List β} (h : Paired F xs ys) {i : Nat} {y : β} (e : ys[i]? = some y) : ∃ x, xs[i]? = some x ∧ F x y := by
  induction h generalizing i with
  | nil => cases e
  | cons r t ih => cases i with
    | zero => cases e; exact ⟨_, rfl, r⟩
    | succ i => exact ih e
theorem laid_ok {α β : Type} {F : α → β → Prop} {us ws ds : List α} {us' ws' ds' : List β} (h1 : Paired F us us') (h2 : Paired F ws ws') (h3 : Paired F ds ds') : ∀ {os : List Sr} {r : List α}, laid us ws ds os = some r → ∃ r', laid us' ws' ds' os = some r' ∧ Paired F r r'
  | [], _, e => by cases e; exact ⟨[], rfl, .nil⟩
  | o :: os, _, e => by
    obtain ⟨x, e1, e2⟩ := Option.bind_eq_some_iff.mp e
    obtain ⟨r, e3, rfl⟩ := Option.map_eq_some_iff.mp e2
    obtain ⟨r', e4, q⟩ := laid_ok h1 h2 h3 e3
    have : ∃ y, o.get us' ws' ds' = some y ∧ F x y := by
      cases o with
      | p i => exact Paired.at h1 e1
      | k i => exact Paired.at h2 e1
      | v i => exact Paired.at h3 e1
    obtain ⟨y, e5, q2⟩ := this
    exact ⟨y :: r', by simp [laid, e5, e4], .cons q2 q⟩
def mCallK (n : Nat) (f : List Mv → Sg → Res Mv) (os : List Sr) (ds : List Mv) (a k : MA) : ME := fun ρ S => (a ρ S).bind fun xs S1 => (k ρ S1).bind fun ys S2 => match laid xs ys ds os with
  | some zs => if frees zs = true ∧ zs.length = n then f zs S2 else .bad
  | none => .bad
section
variable {k : Nat} {f : Addr} {fd : FuncData} {ps ks : List Str} {m : List Mv → Sg → Res Mv} {x : Str} {p pos : Pos} {e : Expr} {es : List Expr} {kws : List Keyword} {ms mk : MA} {ds : List Mv} {dvs : List V} {dus : List Value} {os : List Sr}
theorem callK_want {σ : L2.St} {H : Hp} {Q : VK} (hds : ∀ ι H, XVs X.K ι H ds dvs) (h : tG (XV X.K) X.K W (mCallK ps.length m os ds ms mk) σ H Q) :
    tG (XVs X.K) X.K W ms σ H fun vs H1 => tG (XVs X.K) X.K W mk σ H1 fun zs H2 => ∃ r, laid vs zs dvs os = some r ∧ spM X.K ps.length m r H2 Q (WE W σ) := by
  obtain ⟨ι, S, ρ, hl, hR, h⟩ := h
  refine ⟨ι, S, ρ, hl, hR, step h fun xs vs ι1 H1 S1 s1 r1 hx h1 => ?_⟩
  refine ⟨ι1, S1, ρ, hl.mono s1, r1, step h1 fun ys us ι2 H2 S2 s2 r2 hy h2 => ?_⟩
  cases el : laid xs ys ds os with
  | none => simp only [el] at h2; exact h2.elim
  | some zs =>
    simp only [el] at h2
    by_cases c : frees zs = true ∧ zs.length = ps.length
    · rw [if_pos c] at h2
      obtain ⟨r, e2, pr⟩ := laid_ok (XVs.mono s2 hx) hy (hds ι2 H2) el
      refine ⟨r, e2, ι2, S2, zs, Paired_frees pr c.1, c.2, r2, ?_⟩
      cases e : m zs S2 with
      | ok y S' => rw [e] at h2; exact h2
      | exc y S' => rw [e] at h2; exact h2
      | bad => rw [e] at h2; exact h2
    · rw [if_neg c] at h2; exact h2.elim
/-- f(k = v, ..) -/
theorem pm_callK0 {n : Nat} (F : FnM X.prog X.w X.K X.mg X.base k f fd ps m) (hr : Room k X.A) (gds : X.A.guards = some []) (tk : Takes X W) (hg : Gl X x) (hm : X.mg x = some (.ref f)) (hk : PySem.W.keepIn X.K (.ref f) = true)
    (hb : ∀ (s : Shared) (ws r : List Value), X.K.In s.heap → ws.length = ks.length → laid [] ws dus os = some r → BindsTo s fd ⟨[], ks.zip ws⟩ (ps.zip r)) (hd : Vals dvs dus) (hds : ∀ ι H, XVs X.K ι H ds dvs) (hl : ∀ ρ S xs S', mk ρ S = .ok xs S' → xs.length = ks.length)
    (hkw : PLK X W kws mk) (hn : ps.length = n := by rfl) (hall : (backToKw pos (keywordEach kws X.env)).all (·.1.isSome) = true := by rfl) (hks : (backToKw pos (keywordEach kws X.env)).filterMap (·.1) = ks := by rfl) (hdb : (x == ("__debug__" : Str)) = false := by decide)
    (hpl : ((backTo pos (starEach [] X.env)).any (·.1) || (backToKw pos (keywordEach kws X.env)).any (·.1.isNone)) = false := by rfl) :
    PM X W (.Call (.Name x p) [] kws pos) (mCallK n m os ds mNil mk) := by
  subst hn
  refine ⟨fun pins s σ H Q I want => ?_⟩
  refine wpAny_Call_Name_kw (ld_glob I hg hm ?_ hdb)
  refine PySem.W.callWith_KW0 (h₀ := X.base) I.ok.mod.kin hk hall ?_ hpl
  have want2 : tG (fun ι H xs vs => XVs X.K ι H xs vs ∧ xs.length = ks.length) X.K W mk σ H fun zs H2 => zs.length = ks.length ∧ ∃ r, laid [] zs dvs os = some r ∧ spM X.K ps.length m r H2 Q (WE W σ) := by
    obtain ⟨ι, S, ρ, hL, hR, h⟩ := callK_want hds want
    have h := h _ _ _ (Sub.refl _ _) hR .nil
    obtain ⟨ι, S, ρ, hL, hR, h⟩ := h
    refine ⟨ι, S, ρ, hL, hR, ?_⟩
    cases e : mk ρ S with
    | ok xs S' => rw [e] at h; exact fun ι1 H1 v s r ⟨hx, hn⟩ => ⟨by rw [← hx.length]; exact hn, h _ _ _ s r hx⟩
    | exc _ _ => rw [e] at h; exact h
    | bad => rw [e] at h; exact h
  have want3 : tG (XVs X.K) X.K W mk σ H fun zs H2 => zs.length = ks.length ∧ ∃ r, laid [] zs dvs os = some r ∧ spM X.K ps.length m r H2 Q (WE W σ) := by
    obtain ⟨ι, S, ρ, hL, hR, h⟩ := want2
    refine ⟨ι, S, ρ, hL, hR, ?_⟩
    cases e : mk ρ S with
    | ok xs S' => rw [e] at h; exact fun ι1 H1 v s r hx => h _ _ _ s r ⟨hx, hl _ _ _ _ e⟩
    | exc _ _ => rw [e] at h; exact h
    | bad => rw [e] at h; exact h
  refine thn (hkw.run pos pins s σ H _ I want3) fun ws s2 ⟨zs, H2, I2, rz, ln, r, er, q⟩ => ⟨I2.kIn, ?_⟩
  rw [hks]
  obtain ⟨r', er', rr⟩ := laid_ok (F := RelV) (us := []) (us' := []) .nil rz hd er
  refine wpAny_call (codeAny_mono (run_m F hr gds tk (hb s2 ws r' I2.kIn (by rw [← rz.length]; exact ln) er') I2 rr q) fun res s' got => ?_)
  cases res with
  | error e => exact got
  | ok fl => cases fl <;> exact got
end
end
section
variable {X : Cx} {W : WX}
theorem units65 {k : Nat} {A : Around} (r : Room k A) : A.units + 65 < cLine := by have := r.un; omega
theorem units128 {k : Nat} {A : Around} (r : Room k A) : A.units + 128 < cLine := by have := r.un; omega
theorem units1 {k : Nat} {A : Around} (r : Room k A) : A.units + 1 < cLine := by have := r.un; omega
theorem len_of_nil {ρ : Rho} {S S' : Sg} {xs : List Mv} (h : mNil ρ S = .ok xs S') : xs.length = 0 := by cases h; rfl
theorem len_of_cons {a : ME} {r : MA} {n : Nat} {ρ : Rho} {S S' : Sg} {xs : List Mv} (hr : ∀ ρ S xs S', r ρ S = .ok xs S' → xs.length = n) (h : mCons a r ρ S = .ok xs S') : xs.length = n + 1 := by
  unfold mCons Res.bind at h
  split at h
  · simp only at h
    split at h
    · rename_i e
      cases h
      rw [List.length_cons, hr _ _ _ _ e]
    · cases h
    · cases h
  · cases h
  · cases h
/-- a written negative number -/
def mNeg (a : ME) : ME := fun ρ S => (a ρ S).bind fun x S1 => match x with | .d (.int i) => .ok (.d (.int (-i))) S1 | _ => .bad
theorem pm_neg {a : Expr} {ma : ME} {pos : Pos} (ha : PM X W a ma) : PM X W (.UnaryOp .USub a pos) (mNeg ma) := by
  refine pe_imp (pe_un un_neg ha) fun σ H Q ⟨ι, S, ρ, hl, hr, h⟩ => ⟨ι, S, ρ, hl, hr, step h fun x v ι1 H1 S1 s1 r1 hx h1 => ?_⟩
  split at h1
  · cases hx
    exact ⟨_, rfl, h1 _ _ _ (Sub.refl _ _) r1 (.int _)⟩
  · exact h1.elim
/-- f() -/
def mCall0 (f : List Mv → Sg → Res Mv) : ME := fun _ S => f [] S
theorem pm_call0 {k : Nat} {f : Addr} {fd : FuncData} {m : List Mv → Sg → Res Mv} {x : Str} {p pos : Pos} (F : FnM X.prog X.w X.K X.mg X.base k f fd [] m) (hr : Room k X.A) (gds : X.A.guards = some []) (tk : Takes X W) (hg : Gl X x) (hm : X.mg x = some (.ref f)) (hk : PySem.W.keepIn X.K (.ref f) = true)
    (hb : L2.Binds X.K fd [] []) (hd : Vals ([] : List V) []) (hdb : (x == ("__debug__" : Str)) = false := by decide) : PM X W (.Call (.Name x p) [] [] pos) (mCall0 m) := by
  refine ⟨fun pins s σ H Q I ⟨ι, S, ρ, hl, hR, h⟩ => ?_⟩
  refine wpAny_Call_Name_kw (ld_glob I hg hm ?_ hdb)
  refine PySem.W.callWith_K0 I.kIn hk ?_
  have want : spM X.K 0 m [] H Q (WE W σ) := by
    refine ⟨ι, S, [], .nil, rfl, hR, ?_⟩
    unfold mCall0 at h
    cases e : m [] S with
    | ok y S' => rw [e] at h; exact h
    | exc y S' => rw [e] at h; exact h
    | bad => rw [e] at h; exact h
  refine wpAny_call (codeAny_mono (run_m (ps := []) F hr gds tk (hb s [] I.kIn rfl) I .nil want) fun res s' got => ?_)
  cases res with
  | error e => exact got
  | ok fl => cases fl <;> exact got
end
end MM
end
section
set_option Elab.async false
set_option linter.all false
set_option maxRecDepth 100000
set_option maxHeartbeats 4000000
set_option autoImplicit false
namespace MM
open PySem PySem.Spec PyProof.Rows L2

/-! ### two comparisons in a row -/
section
variable {X : Cx} {W : WX}
def chF (g' : Sg → Mv → Mv → Option Nw) (c : ME) (ρ : Rho) (y : Mv) (S : Sg) (o : Option Nw) : Res Mv := match o with
  | some (.val (.d (.bool true))) => (c ρ S).bind fun z S3 => opt (g' S3 y z) fun n => bear .ref n S3
  | some (.val (.d (.bool false))) => .ok (.d (.bool false)) S
  | _ => .bad
def mChain (g g' : Sg → Mv → Mv → Option Nw) (a b c : ME) : ME := fun ρ S => (a ρ S).bind fun x S1 => (b ρ S1).bind fun y S2 => chF g' c ρ y S2 (g S2 x y)
theorem chain_core {g g' : Sg → Mv → Mv → Option Nw} {ma mb mc : ME} {σ : L2.St} {H : Hp} {Q : VK} (h : tG (XV X.K) X.K W (mChain g g' ma mb mc) σ H Q) :
    tChain (fun v u H Q => ∃ ι S x y z, Rl X.K ι S H ∧ XV X.K ι H x v ∧ XV X.K ι H y u ∧ g S x y = some z ∧ Raw X.K ι H Q z) (fun v u H Q => ∃ ι S x y z, Rl X.K ι S H ∧ XV X.K ι H x v ∧ XV X.K ι H y u ∧ g' S x y = some z ∧ Raw X.K ι H Q z)
      (tG (XV X.K) X.K W ma) (tG (XV X.K) X.K W mb) (tG (XV X.K) X.K W mc) σ H Q := by
  obtain ⟨ι, S, ρ, hl, hr, h⟩ := h
  refine ⟨ι, S, ρ, hl, hr, step h fun x v ι1 H1 S1 s1 r1 hx h1 => ?_⟩
  refine ⟨ι1, S1, ρ, hl.mono s1, r1, step h1 fun y u ι2 H2 S2 s2 r2 hy h2 => ?_⟩
  unfold chF at h2
  split at h2
  · rename_i e
    refine ⟨ι2, S2, x, y, _, r2, hx.mono s2, hy, e, fun w hw => ?_⟩
    cases hw
    refine ⟨true, rfl, ?_⟩
    rw [if_pos rfl]
    refine ⟨ι2, S2, ρ, (hl.mono s1).mono s2, r2, step h2 fun z w ι3 H3 S3 s3 r3 hz h3 => ?_⟩
    unfold opt at h3
    cases e3 : g' S3 y z with
    | none => rw [e3] at h3; exact h3.elim
    | some n =>
      rw [e3] at h3
      exact ⟨ι3, S3, y, z, n, r3, hy.mono s3, hz, e3, bear_raw r3 h3⟩
  · rename_i e
    refine ⟨ι2, S2, x, y, _, r2, hx.mono s2, hy, e, fun w hw => ?_⟩
    cases hw
    exact ⟨false, rfl, h2 _ _ _ (Sub.refl _ _) r2 (.bl _)⟩
  · exact h2.elim

theorem pm_chain {op op' : CmpOp} {a b c : Expr} {g g' : Sg → Mv → Mv → Option Nw} {ma mb mc : ME} {pos : Pos} (o : OpP X (compareOp op) g) (o' : OpP X (compareOp op') g') (ha : PM X W a ma) (hb : PM X W b mb) (hc : PM X W c mc)
    (hm : lastMarks [op, op'] [b, c] = false := by with_unfolding_all rfl) : PM X W (.Compare a [op, op'] [b, c] pos) (mChain g g' ma mb mc) :=
  pe_imp (pe_chain o o' ha hb hc hm) fun σ H Q h => chain_core h
theorem pb_chain {op op' : CmpOp} {a b c : Expr} {g g' : Sg → Mv → Mv → Option Nw} {ma mb mc : ME} {pos : Pos} (o : OpP X (compareOp op) g) (o' : OpP X (compareOp op') g') (ha : PM X W a ma) (hb : PM X W b mb) (hc : PM X W c mc)
    (hm : lastMarks [op, op'] [b, c] = false := by with_unfolding_all rfl) : PB X W (.Compare a [op, op'] [b, c] pos) (mTst (mChain g g' ma mb mc)) := by
  refine pt_imp (pt_chain o o' ha hb hc hm) fun σ H Q ⟨ι, S, ρ, hl, hr, h⟩ => ?_
  have h0 : tG (XV X.K) X.K W (mChain g g' ma mb mc) σ H fun x H' => ∃ k, x = .bl k ∧ Q k H' := by
    refine ⟨ι, S, ρ, hl, hr, step h fun x v ι1 H1 S1 s1 r1 hx h1 => ?_⟩
    cases x with
    | d y =>
      cases y with
      | bool k => cases hx; exact ⟨k, rfl, h1 _ _ _ (Sub.refl _ _) r1 rfl⟩
      | _ => exact h1.elim
    | _ => exact h1.elim
  obtain ⟨ι, S, ρ, hl, hr, h⟩ := h0
  exact chain_core ⟨ι, S, ρ, hl, hr, h⟩

/-! ### texts' methods -/
def gStarts : Sg → Mv → List Mv → Option Nw := fun _ x xs => match x, xs with
  | .d (.str a), [.d (.str b)] => some (.val (.d (.bool (Txt.startswith a b))))
  | _, _ => none
def gEnds : Sg → Mv → List Mv → Option Nw := fun _ x xs => match x, xs with
  | .d (.str a), [.d (.str b)] => some (.val (.d (.bool (Txt.endswith a b))))
  | _, _ => none
def gUpper : Sg → Mv → List Mv → Option Nw := fun _ x xs => match x, xs with
  | .d (.str a), [] => if a.length ≤ 5592405 then some (.val (.d (.str (Txt.upper a)))) else none
  | _, _ => none
def gPart : Sg → Mv → List Mv → Option Nw := fun _ x xs => match x, xs with
  | .d (.str a), [.d (.str b)] => if (b.length == 0) = false ∧ a.length ≤ sizeLine then some (.tup [.d (.str (Txt.partition a b).1), .d (.str (Txt.partition a b).2.1), .d (.str (Txt.partition a b).2.2)]) else none
  | _, _ => none
theorem m_starts : MtP X "str.startswith" gStarts := by
  refine MtR.imp mt_startswith fun v vs H Q ⟨ι, S, x, xs, z, hr, hx, hxs, e, q⟩ => ?_
  unfold gStarts at e
  split at e
  · cases e; cases hx
    obtain ⟨w, rfl, hy⟩ := one_of hxs
    cases hy
    exact ⟨_, _, rfl, rfl, q _ (.bl _)⟩
  · cases e
theorem m_ends : MtP X "str.endswith" gEnds := by
  refine MtR.imp mt_endswith fun v vs H Q ⟨ι, S, x, xs, z, hr, hx, hxs, e, q⟩ => ?_
  unfold gEnds at e
  split at e
  · cases e; cases hx
    obtain ⟨w, rfl, hy⟩ := one_of hxs
    cases hy
    exact ⟨_, _, rfl, rfl, q _ (.bl _)⟩
  · cases e
theorem m_upper : MtP X "str.upper" gUpper := by
  refine MtR.imp mt_upper fun v vs H Q ⟨ι, S, x, xs, z, hr, hx, hxs, e, q⟩ => ?_
  unfold gUpper at e
  split at e
  · split at e
    · rename_i c
      cases e; cases hx; cases hxs
      exact ⟨_, rfl, rfl, c, q _ (.str _)⟩
    · cases e
  · cases e
theorem m_part : MtP X "str.partition" gPart := by
  refine MtR.imp mt_partition fun v vs H Q ⟨ι, S, x, xs, z, hr, hx, hxs, e, q⟩ => ?_
  unfold gPart at e
  split at e
  · split at e
    · rename_i c
      cases e; cases hx
      obtain ⟨w, rfl, hy⟩ := one_of hxs
      cases hy
      exact ⟨_, _, rfl, rfl, c.1, c.2, fun p hp => q _ p (.cons ⟨rfl, .str _⟩ (.cons ⟨rfl, .str _⟩ (.cons ⟨rfl, .str _⟩ .nil))) hp⟩
    · cases e
  · cases e

/-! ### f-strings -/
def mFmt (m : ME) : ME := fun ρ S => (m ρ S).bind fun x S1 => match x with
  | .d (.str y) => if y.length ≤ sizeLine then .ok (.d (.str y)) S1 else .bad
  | .d (.int i) => if i.natAbs.log2 < 1920 then .ok (.d (.str (toString i))) S1 else .bad
  | _ => .bad
theorem pm_fmt {e : Expr} {m : ME} {pos : Pos} (h : PM X W e m) : PM X W (.FormattedValue e (-1) none pos) (mFmt m) := by
  refine pe_imp (pe_fmt h) fun σ H Q ⟨ι, S, ρ, hl, hr, h⟩ => ?_
  refine ⟨ι, S, ρ, hl, hr, step h fun x v ι1 H1 S1 s1 r1 hx h1 => ?_⟩
  split at h1
  · split at h1
    · rename_i c
      cases hx
      exact .inl ⟨_, rfl, c, h1 _ _ _ (Sub.refl _ _) r1 (.str _)⟩
    · exact h1.elim
  · split at h1
    · rename_i c
      cases hx
      exact .inr ⟨_, rfl, c, h1 _ _ _ (Sub.refl _ _) r1 (.str _)⟩
    · exact h1.elim
  · exact h1.elim
def mFmtR (m : ME) : ME := fun ρ S => (m ρ S).bind fun x S1 => match x with
  | .d (.str y) => if (reprText y).length ≤ sizeLine then .ok (.d (.str (reprText y))) S1 else .bad
  | .d (.int i) => if i.natAbs.log2 < 1920 then .ok (.d (.str (toString i))) S1 else .bad
  | _ => .bad
theorem pm_fmtR {e : Expr} {m : ME} {pos : Pos} (h : PM X W e m) : PM X W (.FormattedValue e 114 none pos) (mFmtR m) := by
  refine pe_imp (pe_fmtR h) fun σ H Q ⟨ι, S, ρ, hl, hr, h⟩ => ?_
  refine ⟨ι, S, ρ, hl, hr, step h fun x v ι1 H1 S1 s1 r1 hx h1 => ?_⟩
  split at h1
  · split at h1
    · rename_i c
      cases hx
      exact .inl ⟨_, rfl, c, h1 _ _ _ (Sub.refl _ _) r1 (.str _)⟩
    · exact h1.elim
  · split at h1
    · rename_i c
      cases hx
      exact .inr ⟨_, rfl, c, h1 _ _ _ (Sub.refl _ _) r1 (.str _)⟩
    · exact h1.elim
  · exact h1.elim
def jsS (acc : Str) (x : Mv) : Option Str := match x with
  | .d (.str y) => if (acc ++ y).length ≤ sizeLine then some (acc ++ y) else none
  | _ => none
def jsF (o : Option Str) (S : Sg) (f : Str → Sg → Res Mv) : Res Mv := match o with | some z => f z S | none => .bad
def mJs : List ME → Str → ME
  | [], acc => fun _ S => .ok (.d (.str acc)) S
  | m :: ms, acc => fun ρ S => (m ρ S).bind fun x S1 => jsF (jsS acc x) S1 fun z S2 => mJs ms z ρ S2
def PJM (X : Cx) (W : WX) (es : List Expr) (ms : List ME) : Prop := PJ X es (ms.map fun m => tG (XV X.K) X.K W m)
theorem pj_nilM : PJM X W [] [] := .nil
theorem pj_consM {e : Expr} {es : List Expr} {m : ME} {ms : List ME} (h : PM X W e m) (r : PJM X W es ms) : PJM X W (e :: es) (m :: ms) := .cons h r
theorem js_core {σ : L2.St} {Q : VK} : ∀ {ms : List ME} {acc : Str} {H : Hp}, tG (XV X.K) X.K W (mJs ms acc) σ H Q → tJs (ms.map fun m => tG (XV X.K) X.K W m) acc σ H fun out H1 => Q (.str out) H1
  | [], acc, H, ⟨ι, S, ρ, hl, hr, h⟩ => h _ _ _ (Sub.refl _ _) hr (.str _)
  | m :: ms, acc, H, ⟨ι, S, ρ, hl, hr, h⟩ => by
    refine ⟨ι, S, ρ, hl, hr, step h fun x v ι1 H1 S1 s1 r1 hx h1 => ?_⟩
    cases e : jsS acc x with
    | none => rw [e] at h1; exact h1.elim
    | some z =>
      rw [e] at h1
      unfold jsS at e
      split at e
      · split at e
        · rename_i c
          cases e
          cases hx
          exact ⟨_, rfl, c, js_core ⟨ι1, S1, ρ, hl.mono s1, r1, h1⟩⟩
        · cases e
      · cases e
theorem pm_joined {v1 v2 : Expr} {rest : List Expr} {ms : List ME} {pos : Pos} (h : PJM X W (v1 :: v2 :: rest) ms) : PM X W (.JoinedStr (v1 :: v2 :: rest) pos) (mJs ms Str.empty) :=
  pe_imp (pe_joined h) fun σ H Q h => js_core h
theorem pm_joined1 {e : Expr} {m : ME} {pos : Pos} (h : PM X W e m) : PM X W (.JoinedStr [e] pos) m := pe_joined1 h

/-! ### displays of dicts that are not written any more -/
def mPairs : List (ME × ME) → Rho → Sg → Res (List (Mv × Mv))
  | [], _, S => .ok [] S
  | (a, b) :: r, ρ, S => (a ρ S).bind fun x S1 => (b ρ S1).bind fun y S2 => (mPairs r ρ S2).bind fun ps S3 => .ok ((x, y) :: ps) S3
abbrev XP (K : PySem.W.Frag) : Io → Hp → List (Mv × Mv) → List (V × V) → Prop := fun ι H => Paired fun p q => XV K ι H p.1 q.1 ∧ XV K ι H p.2 q.2
abbrev trM (X : Cx) (W : WX) (ps : List (ME × ME)) : List (TE × TE) := ps.map fun p => (tG (XV X.K) X.K W p.1, tG (XV X.K) X.K W p.2)
def PMPs (X : Cx) (W : WX) (pos : Pos) (ks : List (Option Expr)) (vs : List Expr) (ps : List (ME × ME)) : Prop := PPs X pos ks vs (trM X W ps)
theorem pmps_nil {pos : Pos} : PMPs X W pos [] [] [] := pps_nil
theorem pmps_cons {pos : Pos} {k v : Expr} {ks : List (Option Expr)} {vs : List Expr} {mk mv : ME} {ps : List (ME × ME)} (hk : PM X W k mk) (hv : PM X W v mv) (hr : PMPs X W pos ks vs ps) : PMPs X W pos (some k :: ks) (v :: vs) ((mk, mv) :: ps) := pps_cons hk hv hr
theorem pairs_core {σ : L2.St} : ∀ {ps : List (ME × ME)} {H : Hp} {Q : List (V × V) → Hp → Prop}, tG (XP X.K) X.K W (mPairs ps) σ H Q → tPairs (trM X W ps) σ H Q
  | [], H, Q, ⟨ι, S, ρ, hl, hr, h⟩ => h _ _ _ (Sub.refl _ _) hr .nil
  | (a, b) :: r, H, Q, ⟨ι, S, ρ, hl, hr, h⟩ => by
    refine ⟨ι, S, ρ, hl, hr, step h fun x v ι1 H1 S1 s1 r1 hx h1 => ?_⟩
    refine ⟨ι1, S1, ρ, hl.mono s1, r1, step h1 fun y u ι2 H2 S2 s2 r2 hy h2 => ?_⟩
    refine pairs_core ⟨ι2, S2, ρ, (hl.mono s1).mono s2, r2, step h2 fun qs ws ι3 H3 S3 s3 r3 hz h3 => ?_⟩
    exact h3 _ _ _ (Sub.refl _ _) r3 (.cons ⟨(hx.mono s2).mono s3, hy.mono s3⟩ hz)
def putD (kvs : List (Key × PyData)) (k : Key) (d : PyData) : List (Key × PyData) :=
  if (kvs.any fun kv => decide (kv.1 = k)) = true then kvs.map (fun kv => if kv.1 = k then (kv.1, d) else kv) else kvs ++ [(k, d)]
def mergeD (kvs more : List (Key × PyData)) : List (Key × PyData) := more.foldl (fun acc kv => putD acc kv.1 kv.2) kvs
def keyM : Mv → Option Key
  | .d (.int i) => some (.inl i)
  | .d (.str x) => some (.inr x)
  | _ => none
def keysM : List (Mv × Mv) → Option (List (Key × PyData))
  | [] => some []
  | (x, .d y) :: r => match keyM x, keysM r with | some k, some ks => some ((k, y) :: ks) | _, _ => none
  | _ => none
def dD (kvs : List (Key × PyData)) : PyData := .dict (kvs.map fun kv => (keyD kv.1, kv.2))
def dctF (S : Sg) (o : Option (List (Key × PyData))) : Res Mv := match o with | some kvs => .ok (.d (dD (mergeD [] kvs))) S | none => .bad
def mDct (ps : List (ME × ME)) : ME := fun ρ S => (mPairs ps ρ S).bind fun qs S1 => dctF S1 (keysM qs)
abbrev KD (K : PySem.W.Frag) (H : Hp) : List (Key × PyData) → List (Key × V) → Prop := Paired fun p q => p.1 = q.1 ∧ FD K H p.2 q.2
theorem KD.fdk {K : PySem.W.Frag} {H : Hp} : ∀ {ds : List (Key × PyData)} {kvs : List (Key × V)}, KD K H ds kvs → FDk K H (ds.map fun kv => (keyD kv.1, kv.2)) kvs
  | _, _, .nil => .nil
  | (k, d) :: ds, (k', v) :: vs, .cons ⟨e, h⟩ t => by
    simp only at e
    subst e
    exact .cons h (KD.fdk t)
theorem KD.any {K : PySem.W.Frag} {H : Hp} {ds : List (Key × PyData)} {kvs : List (Key × V)} (r : KD K H ds kvs) (k : Key) : (ds.any fun kv => decide (kv.1 = k)) = kvs.any fun kv => decide (kv.1 = k) := by
  induction r with
  | nil => rfl
  | cons h t ih => rw [List.any_cons, List.any_cons, ih, h.1]
theorem KD.put {K : PySem.W.Frag} {H : Hp} {ds : List (Key × PyData)} {kvs : List (Key × V)} (r : KD K H ds kvs) (k : Key) {d : PyData} {v : V} (h : FD K H d v) : KD K H (putD ds k d) (putK kvs k v) := by
  unfold putD putK
  rw [r.any k]
  by_cases e : (kvs.any fun kv => decide (kv.1 = k)) = true
  · rw [if_pos e, if_pos e]
    clear e
    induction r with
    | nil => exact .nil
    | @cons p q ps qs h1 t ih =>
      refine .cons ?_ ih
      show (if p.1 = k then (p.1, d) else p).1 = (if q.1 = k then (q.1, v) else q).1 ∧ FD K H (if p.1 = k then (p.1, d) else p).2 (if q.1 = k then (q.1, v) else q).2
      by_cases e : p.1 = k
      · rw [if_pos e, if_pos (h1.1 ▸ e)]; exact ⟨h1.1, h⟩
      · rw [if_neg e, if_neg (h1.1 ▸ e)]; exact h1
  · rw [if_neg e, if_neg e]
    exact Paired.append r (.cons ⟨rfl, h⟩ .nil)
theorem KD.merge {K : PySem.W.Frag} {H : Hp} : ∀ {ms : List (Key × PyData)} {more : List (Key × V)} {ds : List (Key × PyData)} {kvs : List (Key × V)}, KD K H ms more → KD K H ds kvs → KD K H (mergeD ds ms) (mergeK kvs more)
  | _, _, _, _, .nil, r => r
  | (k, d) :: ms, (k', v) :: vs, ds, kvs, .cons ⟨e, h⟩ t, r => by
    simp only at e
    subst e
    show KD K H (mergeD (putD ds k d) ms) (mergeK (putK kvs k v) vs)
    exact KD.merge t (r.put k h)
theorem keysM_ok {K : PySem.W.Frag} {ι : Io} {H : Hp} : ∀ {qs : List (Mv × Mv)} {ws : List (V × V)} {ks : List (Key × PyData)}, XP K ι H qs ws → keysM qs = some ks → ∃ kvs, ws = kvs.map (fun kv => (kV kv.1, kv.2)) ∧ KD K H ks kvs
  | _, _, _, .nil, e => by cases e; exact ⟨[], rfl, .nil⟩
  | (x, y) :: qs, (v, u) :: ws, ks, .cons ⟨h1, h2⟩ t, e => by
    cases y with
    | d z =>
      simp only [keysM] at e
      cases e1 : keyM x with
      | none => rw [e1] at e; cases e
      | some k =>
        cases e2 : keysM qs with
        | none => rw [e1, e2] at e; cases e
        | some ks' =>
          rw [e1, e2] at e
          cases e
          obtain ⟨kvs, rfl, r⟩ := keysM_ok t e2
          have hk : v = kV k := by
            unfold keyM at e1
            split at e1
            · cases e1; cases h1; rfl
            · cases e1; cases h1; rfl
            · cases e1
          refine ⟨(k, u) :: kvs, by rw [hk]; rfl, .cons ⟨rfl, h2⟩ r⟩
    | _ => cases e
theorem dct_core {ps : List (ME × ME)} {σ : L2.St} {H : Hp} {Q : VK} (h15 : ps.length ≤ 15) (h : tG (XV X.K) X.K W (mDct ps) σ H Q) : tDisp (trM X W ps) σ H (Qf .frz Q) := by
  obtain ⟨ι, S, ρ, hl, hr, h⟩ := h
  intro p hp
  obtain ⟨r1, s1⟩ := hr.beside (u := .dK []) hp
  have off : ∀ q ∈ ι, q.2 ≠ p := fun q hq z => hr.live q hq (by rw [z]; exact hp)
  have len : ∀ (ps : List (ME × ME)) (ρ : Rho) (S : Sg) (qs : List (Mv × Mv)) (S' : Sg), mPairs ps ρ S = .ok qs S' → qs.length = ps.length := by
    intro ps
    induction ps with
    | nil => intro ρ S qs S' e; cases e; rfl
    | cons a r ih =>
      intro ρ S qs S' e
      obtain ⟨a, b⟩ := a
      simp only [mPairs] at e
      cases e1 : a ρ S with
      | ok x S1 =>
        rw [e1] at e
        simp only [Res.bind] at e
        cases e2 : b ρ S1 with
        | ok y S2 =>
          rw [e2] at e
          simp only [Res.bind] at e
          cases e3 : mPairs r ρ S2 with
          | ok zs S3 =>
            rw [e3] at e
            simp only [Res.bind] at e
            cases e
            rw [List.length_cons, List.length_cons, ih _ _ _ _ e3]
          | _ => rw [e3] at e; cases e
        | _ => rw [e2] at e; cases e
      | _ => rw [e1] at e; cases e
  cases e : mPairs ps ρ S with
  | bad =>
    unfold mDct at h
    rw [e] at h
    exact h.elim
  | exc ex S' =>
    unfold mDct at h
    rw [e] at h
    refine pairs_core ⟨ι, S, ρ, hl.mono s1, r1, ?_⟩
    rw [e]
    exact fun ι' H' d s r q => h ι' H' d (s1.trans s) r q
  | ok qs S' =>
    unfold mDct at h
    rw [e] at h
    have hq := len ps ρ S qs S' e
    refine pairs_core ⟨ι, S, ρ, hl.mono s1, r1, ?_⟩
    rw [e]
    intro ι2 H2 ws s2 r2 hx
    have kp : H2 p = some (.dK []) := s2.keep p _ upd_same off
    simp only [Res.bind] at h
    cases ek : keysM qs with
    | none => rw [ek] at h; exact h.elim
    | some ks =>
      rw [ek] at h
      obtain ⟨kvs, rfl, kd⟩ := keysM_ok hx ek
      refine ⟨kp, kvs, rfl, ?_, .inr ⟨p, _, rfl, upd_same, True.intro, fun o => ?_⟩⟩
      · have := hx.length
        rw [List.length_map] at this
        omega
      · have off2 : ∀ q ∈ ι2, q.2 ≠ p := by
          obtain ⟨t, et, ht⟩ := s2.pre
          intro q hq
          rw [et] at hq
          rcases List.mem_append.mp hq with hq | hq
          · exact off q hq
          · intro z
            have := ht q hq
            rw [z, upd_same] at this
            cases this
        rw [upd_upd]
        have r3 := r2.aside (u := .frz o (.dK (mergeK [] kvs))) kp True.intro off2
        have s3 : Sub ι H ι2 (upd H2 p (.frz o (.dK (mergeK [] kvs)))) := (s1.trans s2).again hp kp
        have g3 : Grow H2 (upd H2 p (.frz o (.dK (mergeK [] kvs)))) := Grow.write kp True.intro
        refine h ι2 _ _ s3 r3 (.dct upd_same (KD.fdk ?_))
        exact KD.merge (Paired.mapP kd fun _ _ q => ⟨q.1, FD.mono g3 q.2⟩) .nil
theorem pm_dct {pos : Pos} {keys : List (Option Expr)} {values : List Expr} {ps : List (ME × ME)} (h : PMPs X W pos keys values ps) (hall : keys.all (·.isSome) = true) (hl : keys.length = values.length) (h0 : keys ≠ []) (h15 : keys.length ≤ 15) (hp : ps.length = keys.length := by rfl) : PM X W (.Dict keys values pos) (mDct ps) :=
  pe_imp (pe_b .frz (pe_disp h hall hl h0 h15)) fun σ H Q q => dct_core (by omega) q
theorem pm_dct0 {pos : Pos} : PM X W (.Dict [] [] pos) (mC (.dict [])) := by
  refine pe_imp (pe_b .frz pe_dnewK) fun σ H Q ⟨ι, S, ρ, hl, hr, h⟩ => ?_
  intro p hp
  refine .inr ⟨p, _, rfl, upd_same, True.intro, fun o => ?_⟩
  rw [upd_upd]
  obtain ⟨r1, s1⟩ := hr.beside (u := .frz o (.dK [])) hp
  exact h ι _ _ s1 r1 (.dct upd_same .nil)
end
end MM
end
section
set_option Elab.async false
set_option linter.all false
set_option maxRecDepth 100000
set_option maxHeartbeats 4000000
set_option autoImplicit false
namespace MM.Q
open PySem PySem.Spec PyProof.Rows L2 MM

/-! ### how a mirror is reckoned: every rule is an equation whose right side holds what comes next unapplied -/
section
variable {α β : Type} {ρ : Rho} {S S' : Sg}
theorem bind_ok {x : α} {f : α → Sg → Res β} : (Res.ok x S).bind f = f x S := rfl
theorem bind_exc {e : Ex} {f : α → Sg → Res β} : (Res.exc e S : Res α).bind f = .exc e S := rfl
theorem go_ok {x : α} {f : α → Sg → RS} : (Res.ok x S).go ρ f = f x S := rfl
theorem go_exc {e : Ex} {f : α → Sg → RS} : (Res.exc e S : Res α).go ρ f = .exc e ρ S := rfl
theorem nox_ok {x : α} : (Res.ok x S).nox = .ok x S := rfl
def vr (o : Option (Option Mv)) (S : Sg) : Res Mv := match o with | some (some x) => .ok x S | _ => .bad
theorem vr_some {x : Mv} : vr (some (some x)) S = .ok x S := rfl
theorem ev_var {i : Nat} : mVar i ρ S = vr ρ[i]? S := rfl
theorem ev_c {d : PyData} : mC d ρ S = .ok (.d d) S := rfl
theorem ev_k {x : Mv} : mK x ρ S = .ok x S := rfl
/-! births -/
def frzO (o : Option (List PyData)) (S : Sg) : Res Mv := match o with | some ds => .ok (.d (.list ds)) S | none => .bad
def tupO (o : Option (List PyData)) (xs : List Mv) (S : Sg) : Res Mv := match o with | some ds => .ok (.d (.tuple ds)) S | none => .ok (.ref S.length) (S ++ [(false, .tup xs)])
theorem frzO_some {ds : List PyData} : frzO (some ds) S = .ok (.d (.list ds)) S := rfl
theorem tupO_some {ds : List PyData} {xs : List Mv} : tupO (some ds) xs S = .ok (.d (.tuple ds)) S := rfl
theorem tupO_none {xs : List Mv} : tupO none xs S = .ok (.ref S.length) (S ++ [(false, .tup xs)]) := rfl
theorem bear_val {b : Bi} {z : Mv} : bear b (.val z) S = .ok z S := rfl
theorem bear_frz {xs : List Mv} : bear .frz (.lst xs) S = frzO (allD xs) S := rfl
theorem bear_ref {xs : List Mv} : bear .ref (.lst xs) S = .ok (.ref S.length) (S ++ [(false, .lst xs)]) := rfl
theorem bear_own {xs : List Mv} : bear .own (.lst xs) S = .ok (.own S.length) (S ++ [(true, .lst xs)]) := rfl
theorem bear_tup {b : Bi} {xs : List Mv} : bear b (.tup xs) S = tupO (allD xs) xs S := rfl
theorem allD_nil : allD [] = some [] := rfl
theorem allD_cons {x : PyData} {r : List Mv} : allD (.d x :: r) = (allD r).map (x :: ·) := rfl
theorem allD_map (ds : List PyData) : allD (ds.map .d) = some ds := by
  induction ds with
  | nil => rfl
  | cons x r ih => rw [List.map_cons, allD_cons, ih]; rfl
def bearO (b : Bi) (o : Option Nw) (S : Sg) : Res Mv := opt o fun z => bear b z S
theorem bearO_some {b : Bi} {z : Nw} : bearO b (some z) S = bear b z S := rfl
/-! operators -/
def k2Bin (b : Bi) (g : Sg → Mv → Mv → Option Nw) (x : Mv) : Mv → Sg → Res Mv := fun y S => bearO b (g S x y) S
def k1Bin (b : Bi) (g : Sg → Mv → Mv → Option Nw) (c : ME) (ρ : Rho) : Mv → Sg → Res Mv := fun x S => (c ρ S).bind (k2Bin b g x)
theorem ev_bin {b : Bi} {g : Sg → Mv → Mv → Option Nw} {a c : ME} : mBin b g a c ρ S = (a ρ S).bind (k1Bin b g c ρ) := rfl
theorem ev_bin1 {b : Bi} {g : Sg → Mv → Mv → Option Nw} {c : ME} {x : Mv} : k1Bin b g c ρ x S = (c ρ S).bind (k2Bin b g x) := rfl
theorem ev_bin2 {b : Bi} {g : Sg → Mv → Mv → Option Nw} {x y : Mv} : k2Bin b g x y S = bearO b (g S x y) S := rfl
theorem add_int {i j : Int} : gAdd S (.d (.int i)) (.d (.int j)) = some (.val (.d (.int (i + j)))) := rfl
theorem add_str {a b : Str} (h : a.length + b.length ≤ sizeLine) : gAdd S (.d (.str a)) (.d (.str b)) = some (.val (.d (.str (a ++ b)))) := if_pos h
theorem sub_int {i j : Int} : gSub S (.d (.int i)) (.d (.int j)) = some (.val (.d (.int (i - j)))) := rfl
theorem mul_int {i j : Int} (h : (-(2 ^ 64) < i ∧ i < 2 ^ 64) ∨ (-(2 ^ 64) < j ∧ j < 2 ^ 64)) : gMul S (.d (.int i)) (.d (.int j)) = some (.val (.d (.int (i * j)))) := if_pos h
theorem mul_str {z : Str} {n : Int} (h : -(2 ^ 63) ≤ n ∧ n < 2 ^ 63 ∧ z.length * n.toNat ≤ sizeLine) : gMul S (.d (.str z)) (.d (.int n)) = some (.val (.d (.str (strRep z n.toNat)))) := if_pos h
theorem mod_int {i j : Int} (h : 0 < j) : gMod S (.d (.int i)) (.d (.int j)) = some (.val (.d (.int (i % j)))) := if_pos h
theorem fdiv_int {i j : Int} (h : 0 < j ∧ j < 2 ^ 64) : gFdiv S (.d (.int i)) (.d (.int j)) = some (.val (.d (.int (i / j)))) := if_pos h
theorem pow_int {i j : Int} (h : 0 ≤ j ∧ j ≤ 1000000 ∧ i.natAbs < 2 ^ 64) : gPow S (.d (.int i)) (.d (.int j)) = some (.val (.d (.int (i ^ j.toNat)))) := if_pos h
theorem intB_int {f : Int → Int → Bool} {i j : Int} : gIntB f S (.d (.int i)) (.d (.int j)) = some (.val (.d (.bool (f i j)))) := rfl
def datO (o : Option (Bool × List Mv)) : Option PyData := match o with
  | some (false, xs) => (allD xs).map .list
  | some (true, xs) => (allD xs).map .tuple
  | none => none
theorem datO_f {xs : List Mv} : datO (some (false, xs)) = (allD xs).map .list := rfl
theorem datO_t {xs : List Mv} : datO (some (true, xs)) = (allD xs).map .tuple := rfl
theorem data_d {x : PyData} : Mv.data S (.d x) = some x := rfl
theorem data_ref {i : Nat} : Mv.data S (.ref i) = datO (Mv.seq S (.ref i)) := by
  show (match Mv.seq S (.ref i) with | some (false, xs) => (allD xs).map PyData.list | some (true, xs) => (allD xs).map PyData.tuple | none => none) = _
  cases Mv.seq S (.ref i) with
  | none => rfl
  | some p => obtain ⟨t, xs⟩ := p; cases t <;> rfl
theorem data_own {i : Nat} : Mv.data S (.own i) = datO (Mv.seq S (.own i)) := by
  show (match Mv.seq S (.own i) with | some (false, xs) => (allD xs).map PyData.list | some (true, xs) => (allD xs).map PyData.tuple | none => none) = _
  cases Mv.seq S (.own i) with
  | none => rfl
  | some p => obtain ⟨t, xs⟩ := p; cases t <;> rfl
def eqC (neg : Bool) (d e : PyData) : Option Nw := if SeqAt.shaped d = true ∧ SeqAt.shaped e = true then some (.val (.d (.bool (if neg then !PyData.eqv d e else PyData.eqv d e)))) else none
def eqO (neg : Bool) (o p : Option PyData) : Option Nw := match o, p with | some d, some e => eqC neg d e | _, _ => none
theorem ev_eq_r {neg : Bool} {i : Nat} {y : Mv} : gEqN neg S (.ref i) y = eqO neg (Mv.data S (.ref i)) (y.data S) := rfl
theorem ev_eq_o {neg : Bool} {i : Nat} {y : Mv} : gEqN neg S (.own i) y = eqO neg (Mv.data S (.own i)) (y.data S) := rfl
theorem ev_eq_l {neg : Bool} {i : List PyData} {y : Mv} : gEqN neg S (.d (.list i)) y = eqO neg (some (.list i)) (y.data S) := rfl
theorem ev_eq_t {neg : Bool} {i : List PyData} {y : Mv} : gEqN neg S (.d (.tuple i)) y = eqO neg (some (.tuple i)) (y.data S) := rfl
theorem ev_eq_i {neg : Bool} {i : Int} {y : Mv} : gEqN neg S (.d (.int i)) y = eqO neg (some (.int i)) (y.data S) := rfl
theorem ev_eq_b {neg : Bool} {i : Bool} {y : Mv} : gEqN neg S (.d (.bool i)) y = eqO neg (some (.bool i)) (y.data S) := rfl
theorem ev_eq_n {neg : Bool} {y : Mv} : gEqN neg S (.d .none) y = eqO neg (some .none) (y.data S) := rfl
theorem ev_eq_st {i j : Str} : gEqN true S (.d (.str i)) (.d (.str j)) = some (.val (.d (.bool (!decide (i = j))))) := rfl
theorem ev_eq_sf {i j : Str} : gEqN false S (.d (.str i)) (.d (.str j)) = some (.val (.d (.bool (decide (i = j))))) := rfl
theorem eqO_some {neg : Bool} {d e : PyData} : eqO neg (some d) (some e) = eqC neg d e := rfl
theorem eqC_t {d e : PyData} (s1 : SeqAt.shaped d = true) (s2 : SeqAt.shaped e = true) : eqC true d e = some (.val (.d (.bool (!PyData.eqv d e)))) := if_pos ⟨s1, s2⟩
theorem eqC_f {d e : PyData} (s1 : SeqAt.shaped d = true) (s2 : SeqAt.shaped e = true) : eqC false d e = some (.val (.d (.bool (PyData.eqv d e)))) := if_pos ⟨s1, s2⟩
theorem shaped_int {i : Int} : SeqAt.shaped (.int i) = true := by simp [SeqAt.shaped, PyData.canLay0, PyData.depth]
theorem shaped_bool {i : Bool} : SeqAt.shaped (.bool i) = true := by simp [SeqAt.shaped, PyData.canLay0, PyData.depth]
theorem shaped_none : SeqAt.shaped .none = true := by simp [SeqAt.shaped, PyData.canLay0, PyData.depth]
theorem shaped_str {z : Str} : SeqAt.shaped (.str z) = PyData.strOk z := by simp [SeqAt.shaped, PyData.canLay0, PyData.depth]
theorem shaped_nil : SeqAt.shaped (.list []) = true := by simp [SeqAt.shaped, PyData.canLay0, PyData.canLayAll0, PyData.depth, PyData.depthAll]
theorem flat_depth {xs : List PyData} (h : ∀ x ∈ xs, x.depth = 0) : PyData.depthAll xs = 0 := by
  induction xs with
  | nil => rfl
  | cons x r ih => simp only [PyData.depthAll]; rw [h x (List.mem_cons_self ..), ih fun y hy => h y (List.mem_cons_of_mem _ hy)]; rfl
theorem flat_lay {xs : List PyData} (h : ∀ x ∈ xs, x.canLay0 = true) : PyData.canLayAll0 xs = true := by
  induction xs with
  | nil => rfl
  | cons x r ih => simp only [PyData.canLayAll0]; rw [h x (List.mem_cons_self ..), ih fun y hy => h y (List.mem_cons_of_mem _ hy)]; rfl
theorem shaped_flat {xs : List PyData} (h : ∀ x ∈ xs, x.canLay0 = true ∧ x.depth = 0) : SeqAt.shaped (.list xs) = true ∧ SeqAt.shaped (.tuple xs) = true := by
  have h1 := flat_lay fun x hx => (h x hx).1
  have h2 := flat_depth fun x hx => (h x hx).2
  simp [SeqAt.shaped, PyData.canLay0, PyData.depth, h1, h2]
theorem shaped_ints {xs : List Int} : SeqAt.shaped (.list (xs.map .int)) = true := (shaped_flat fun x hx => by
  obtain ⟨n, _, rfl⟩ := List.mem_map.mp hx
  simp [PyData.canLay0, PyData.depth]).1
theorem eqv_nil {xs : List PyData} : PyData.eqv (.list xs) (.list []) = xs.isEmpty := by cases xs <;> simp [PyData.eqv, PyData.eqvAll]
theorem eqv_int {i j : Int} : PyData.eqv (.int i) (.int j) = (i == j) := by simp [PyData.eqv]
theorem eqv_str {i j : Str} : PyData.eqv (.str i) (.str j) = (i == j) := by simp [PyData.eqv]
theorem eqv_bool {i j : Bool} : PyData.eqv (.bool i) (.bool j) = (i == j) := by simp [PyData.eqv]
theorem in_str {i j : Str} : gInN false S (.d (.str i)) (.d (.str j)) = some (.val (.d (.bool (inStr i j)))) := rfl
theorem notIn_str {i j : Str} : gInN true S (.d (.str i)) (.d (.str j)) = some (.val (.d (.bool (!inStr i j)))) := rfl
theorem is_bool {a b : Bool} : gIsN false S (.d (.bool a)) (.d (.bool b)) = some (.val (.d (.bool (decide (a = b))))) := rfl
theorem isnot_bool {a b : Bool} : gIsN true S (.d (.bool a)) (.d (.bool b)) = some (.val (.d (.bool (!decide (a = b))))) := rfl
/-! truth -/
def tstO (x : Mv) (S : Sg) : Res Bool := match x with | .d (.bool b) => .ok b S | _ => .bad
theorem tst_bool {b : Bool} : tstO (.d (.bool b)) S = .ok b S := rfl
theorem ev_tst {m : ME} : mTst m ρ S = (m ρ S).bind tstO := rfl
def truO (o : Option Bool) (S : Sg) : Res Bool := match o with | some k => .ok k S | none => .bad
def kTru : Mv → Sg → Res Bool := fun x S => truO (x.truth S) S
theorem ev_truth {m : ME} : mTruth m ρ S = (m ρ S).bind kTru := rfl
theorem ev_tru {x : Mv} : kTru x S = truO (x.truth S) S := rfl
theorem truO_some {k : Bool} : truO (some k) S = .ok k S := rfl
theorem truth_bool {b : Bool} : Mv.truth S (.d (.bool b)) = some b := rfl
theorem truth_int {i : Int} : Mv.truth S (.d (.int i)) = some (i != 0) := rfl
theorem truth_none : Mv.truth S (.d .none) = some false := rfl
theorem truth_list {xs : List PyData} : Mv.truth S (.d (.list xs)) = some (!xs.isEmpty) := rfl
theorem truth_tup {xs : List PyData} : Mv.truth S (.d (.tuple xs)) = some (!xs.isEmpty) := rfl
def kAndB (b : MT) (ρ : Rho) : Bool → Sg → Res Bool := fun k S => if k = true then b ρ S else .ok false S
def kOrB (b : MT) (ρ : Rho) : Bool → Sg → Res Bool := fun k S => if k = true then .ok true S else b ρ S
def kNotB : Bool → Sg → Res Bool := fun k S => .ok (!k) S
theorem ev_andB {a b : MT} : mAndB a b ρ S = (a ρ S).bind (kAndB b ρ) := rfl
theorem ev_orB {a b : MT} : mOrB a b ρ S = (a ρ S).bind (kOrB b ρ) := rfl
theorem ev_notB {a : MT} : mNotB a ρ S = (a ρ S).bind kNotB := rfl
theorem andB_t {b : MT} : kAndB b ρ true S = b ρ S := rfl
theorem andB_f {b : MT} : kAndB b ρ false S = .ok false S := rfl
theorem orB_t {b : MT} : kOrB b ρ true S = .ok true S := rfl
theorem orB_f {b : MT} : kOrB b ρ false S = b ρ S := rfl
theorem ev_notB1 {k : Bool} : kNotB k S = .ok (!k) S := rfl
def kAnd (b : ME) (ρ : Rho) : Mv → Sg → Res Mv := fun x S => match x.truth S with | some true => b ρ S | some false => .ok x S | none => .bad
def kOr (b : ME) (ρ : Rho) : Mv → Sg → Res Mv := fun x S => match x.truth S with | some false => b ρ S | some true => .ok x S | none => .bad
theorem ev_and {a b : ME} : mAnd a b ρ S = (a ρ S).bind (kAnd b ρ) := rfl
theorem ev_or {a b : ME} : mOr a b ρ S = (a ρ S).bind (kOr b ρ) := rfl
theorem and_t {b : ME} {x : Mv} (h : x.truth S = some true) : kAnd b ρ x S = b ρ S := by unfold kAnd; rw [h]
theorem and_f {b : ME} {x : Mv} (h : x.truth S = some false) : kAnd b ρ x S = .ok x S := by unfold kAnd; rw [h]
theorem or_t {b : ME} {x : Mv} (h : x.truth S = some true) : kOr b ρ x S = .ok x S := by unfold kOr; rw [h]
theorem or_f {b : ME} {x : Mv} (h : x.truth S = some false) : kOr b ρ x S = b ρ S := by unfold kOr; rw [h]
theorem and_tB {b : ME} : kAnd b ρ (.d (.bool true)) S = b ρ S := rfl
theorem and_fB {b : ME} : kAnd b ρ (.d (.bool false)) S = .ok (.d (.bool false)) S := rfl
theorem or_tB {b : ME} : kOr b ρ (.d (.bool true)) S = .ok (.d (.bool true)) S := rfl
theorem or_fB {b : ME} : kOr b ρ (.d (.bool false)) S = b ρ S := rfl
def notO (o : Option Bool) (S : Sg) : Res Mv := match o with | some k => .ok (.d (.bool (!k))) S | none => .bad
def kNot : Mv → Sg → Res Mv := fun x S => notO (x.truth S) S
theorem ev_not {a : ME} : mNot a ρ S = (a ρ S).bind kNot := by
  unfold mNot
  congr 1
theorem ev_not1 {x : Mv} : kNot x S = notO (x.truth S) S := rfl
theorem notO_some {k : Bool} : notO (some k) S = .ok (.d (.bool (!k))) S := rfl
def kIfE (a b : ME) (ρ : Rho) : Bool → Sg → Res Mv := fun k S => if k = true then a ρ S else b ρ S
theorem ev_ifE {c : MT} {a b : ME} : mIf c a b ρ S = (c ρ S).bind (kIfE a b ρ) := rfl
theorem ifE_t {a b : ME} : kIfE a b ρ true S = a ρ S := rfl
theorem ifE_f {a b : ME} : kIfE a b ρ false S = b ρ S := rfl
/-! arguments, displays -/
def k2Cons (x : Mv) : List Mv → Sg → Res (List Mv) := fun xs S => .ok (x :: xs) S
def k1Cons (r : MA) (ρ : Rho) : Mv → Sg → Res (List Mv) := fun x S => (r ρ S).bind (k2Cons x)
theorem ev_nil : mNil ρ S = .ok [] S := rfl
theorem ev_cons {a : ME} {r : MA} : mCons a r ρ S = (a ρ S).bind (k1Cons r ρ) := rfl
theorem ev_cons1 {r : MA} {x : Mv} : k1Cons r ρ x S = (r ρ S).bind (k2Cons x) := rfl
theorem ev_cons2 {x : Mv} {xs : List Mv} : k2Cons x xs S = .ok (x :: xs) S := rfl
def kDisp (b : Bi) (tup : Bool) : List Mv → Sg → Res Mv := fun xs S => if frees xs = true ∧ xs.length ≤ sizeLine then bear b (if tup = true then .tup xs else .lst xs) S else .bad
theorem ev_disp {b : Bi} {tup : Bool} {a : MA} : mDisp b tup a ρ S = (a ρ S).bind (kDisp b tup) := rfl
theorem disp_lst {b : Bi} {xs : List Mv} (h : frees xs = true) (h2 : xs.length ≤ sizeLine) : kDisp b false xs S = bear b (.lst xs) S := if_pos ⟨h, h2⟩
theorem disp_tup {b : Bi} {xs : List Mv} (h : frees xs = true) (h2 : xs.length ≤ sizeLine) : kDisp b true xs S = bear b (.tup xs) S := if_pos ⟨h, h2⟩
theorem frees_nil : frees [] = true := rfl
theorem frees_cons {x : Mv} {xs : List Mv} : frees (x :: xs) = (x.free && frees xs) := rfl
theorem free_d {x : PyData} : Mv.free (.d x) = true := rfl
theorem free_ref {i : Nat} : Mv.free (.ref i) = true := rfl
theorem free_adr {i : Addr} : Mv.free (.adr i) = true := rfl
/-- whole numbers as values -/
def dI (xs : List Int) : List Mv := (xs.map PyData.int).map .d
theorem dI_snoc {xs : List Int} {x : Int} : dI (xs ++ [x]) = dI xs ++ [.d (.int x)] := by simp [dI]
theorem dI_len {xs : List Int} : (dI xs).length = xs.length := by simp [dI]
theorem allD_dI {xs : List Int} : allD (dI xs) = some (xs.map .int) := allD_map _
theorem dI_nil : dI [] = [] := rfl
theorem allD_dIs {xs : List Int} {x : Int} : allD (dI xs ++ [.d (.int x)]) = some ((xs ++ [x]).map .int) := by rw [← dI_snoc, allD_dI]
theorem frees_map (ds : List PyData) : frees (ds.map .d) = true := by
  induction ds with
  | nil => rfl
  | cons x r ih => rw [List.map_cons, frees_cons, ih]; rfl
/-! calls -/
def kCB (b : Bi) (g : Sg → List Mv → Option Nw) : List Mv → Sg → Res Mv := fun xs S => bearO b (g S xs) S
theorem ev_cb {b : Bi} {g : Sg → List Mv → Option Nw} {a : MA} : mCB b g a ρ S = (a ρ S).bind (kCB b g) := rfl
theorem ev_cb1 {b : Bi} {g : Sg → List Mv → Option Nw} {xs : List Mv} : kCB b g xs S = bearO b (g S xs) S := rfl
def kCall (n : Nat) (f : List Mv → Sg → Res Mv) (ds : List Mv) : List Mv → Sg → Res Mv := fun xs S => if frees xs = true ∧ (xs ++ ds).length = n then f (xs ++ ds) S else .bad
theorem ev_call {n : Nat} {f : List Mv → Sg → Res Mv} {ds : List Mv} {a : MA} : mCall n f ds a ρ S = (a ρ S).bind (kCall n f ds) := rfl
theorem ev_call1 {n : Nat} {f : List Mv → Sg → Res Mv} {ds xs : List Mv} (h : frees xs = true) (h2 : (xs ++ ds).length = n) : kCall n f ds xs S = f (xs ++ ds) S := if_pos ⟨h, h2⟩
theorem ev_call0 {f : List Mv → Sg → Res Mv} : mCall0 f ρ S = f [] S := rfl
def lddO (n : Nat) (f : List Mv → Sg → Res Mv) (o : Option (List Mv)) (S : Sg) : Res Mv := match o with
  | some zs => if frees zs = true ∧ zs.length = n then f zs S else .bad
  | none => .bad
def k2CallK (n : Nat) (f : List Mv → Sg → Res Mv) (os : List Sr) (ds xs : List Mv) : List Mv → Sg → Res Mv := fun ys S => lddO n f (laid xs ys ds os) S
def k1CallK (n : Nat) (f : List Mv → Sg → Res Mv) (os : List Sr) (ds : List Mv) (k : MA) (ρ : Rho) : List Mv → Sg → Res Mv := fun xs S => (k ρ S).bind (k2CallK n f os ds xs)
theorem ev_callK {n : Nat} {f : List Mv → Sg → Res Mv} {os : List Sr} {ds : List Mv} {a k : MA} : mCallK n f os ds a k ρ S = (a ρ S).bind (k1CallK n f os ds k ρ) := by
  unfold mCallK
  congr 1
theorem ev_callK1 {n : Nat} {f : List Mv → Sg → Res Mv} {os : List Sr} {ds xs : List Mv} {k : MA} : k1CallK n f os ds k ρ xs S = (k ρ S).bind (k2CallK n f os ds xs) := rfl
theorem ev_callK2 {n : Nat} {f : List Mv → Sg → Res Mv} {os : List Sr} {ds xs ys : List Mv} : k2CallK n f os ds xs ys S = lddO n f (laid xs ys ds os) S := rfl
theorem ldd_some {n : Nat} {f : List Mv → Sg → Res Mv} {zs : List Mv} (h : frees zs = true) (h2 : zs.length = n) : lddO n f (some zs) S = f zs S := if_pos ⟨h, h2⟩
theorem laid_nil {us ws ds : List Mv} : laid us ws ds [] = some [] := rfl
theorem laid_k {us ws ds : List Mv} {i : Nat} {r : List Sr} : laid us ws ds (.k i :: r) = (ws[i]?).bind fun x => (laid us ws ds r).map (x :: ·) := rfl
theorem laid_p {us ws ds : List Mv} {i : Nat} {r : List Sr} : laid us ws ds (.p i :: r) = (us[i]?).bind fun x => (laid us ws ds r).map (x :: ·) := rfl
theorem laid_v {us ws ds : List Mv} {i : Nat} {r : List Sr} : laid us ws ds (.v i :: r) = (ds[i]?).bind fun x => (laid us ws ds r).map (x :: ·) := rfl
/-! subscripts, slices -/
def ixO (o : Option Mv) (S : Sg) : Res Mv := match o with | some z => .ok z S | none => .bad
theorem ixO_some {z : Mv} : ixO (some z) S = .ok z S := rfl
def k2Ix (x : Mv) : Mv → Sg → Res Mv := fun y S => ixO (gIx S x y) S
def k1Ix (b : ME) (ρ : Rho) : Mv → Sg → Res Mv := fun x S => (b ρ S).bind (k2Ix x)
theorem ev_ix {a b : ME} : mIx a b ρ S = (a ρ S).bind (k1Ix b ρ) := rfl
theorem ev_ix1 {b : ME} {x : Mv} : k1Ix b ρ x S = (b ρ S).bind (k2Ix x) := rfl
theorem ev_ix2 {x y : Mv} : k2Ix x y S = ixO (gIx S x y) S := rfl
theorem ix_str {z : Str} {i : Int} (h : z.length ≤ sizeLine) : gIx S (.d (.str z)) (.d (.int i)) = (atI z.cps.toList i).map fun c => .d (.str ⟨#[c]⟩) := if_pos h
theorem ix_list {xs : List PyData} {i : Int} : gIx S (.d (.list xs)) (.d (.int i)) = atI (xs.map .d) i := rfl
theorem ix_tup {xs : List PyData} {i : Int} : gIx S (.d (.tuple xs)) (.d (.int i)) = atI (xs.map .d) i := rfl
/-- what a cell tells as a sequence -/
def refS (fl : Bool) (o : Option (Bool × Mo)) : Option (Bool × List Mv) := match o with
  | some (c, .lst xs) => if c = fl then some (false, xs) else none
  | some (c, .tup xs) => if c = fl then some (true, xs) else none
  | _ => none
theorem refS_lst {fl : Bool} {xs : List Mv} : refS fl (some (fl, .lst xs)) = some (false, xs) := if_pos rfl
theorem refS_tup {fl : Bool} {xs : List Mv} : refS fl (some (fl, .tup xs)) = some (true, xs) := if_pos rfl
theorem seq_ref {i : Nat} : Mv.seq S (.ref i) = refS false S[i]? := by
  simp only [Mv.seq]
  cases S[i]? with
  | none => rfl
  | some p => obtain ⟨c, o⟩ := p; cases o <;> cases c <;> rfl
theorem seq_own {i : Nat} : Mv.seq S (.own i) = refS true S[i]? := by
  simp only [Mv.seq]
  cases S[i]? with
  | none => rfl
  | some p => obtain ⟨c, o⟩ := p; cases o <;> cases c <;> rfl
theorem seq_list {xs : List PyData} : Mv.seq S (.d (.list xs)) = some (false, xs.map .d) := rfl
theorem seq_tup {xs : List PyData} : Mv.seq S (.d (.tuple xs)) = some (true, xs.map .d) := rfl
def ixK (i : Int) (o : Option (Bool × List Mv)) : Option Mv := match o with | some q => atI q.2 i | none => none
theorem ixK_some {i : Int} {b : Bool} {xs : List Mv} : ixK i (some (b, xs)) = atI xs i := rfl
theorem ix_ref {j : Nat} {i : Int} : gIx S (.ref j) (.d (.int i)) = ixK i (Mv.seq S (.ref j)) := by
  show (Mv.seq S (.ref j)).bind _ = _
  cases Mv.seq S (.ref j) <;> rfl
theorem ix_own {j : Nat} {i : Int} : gIx S (.own j) (.d (.int i)) = ixK i (Mv.seq S (.own j)) := by
  show (Mv.seq S (.own j)).bind _ = _
  cases Mv.seq S (.own j) <;> rfl
def listO (o : Option (Bool × List Mv)) : Option (List Mv) := match o with | some (false, xs) => some xs | _ => none
theorem listO_f {xs : List Mv} : listO (some (false, xs)) = some xs := rfl
theorem ev_list {x : Mv} : x.isList S = listO (x.seq S) := rfl
theorem at0 {α : Type} {x : α} {r : List α} : atI (x :: r) 0 = some x := by
  unfold atI ixN; rw [if_pos (by omega), if_pos (by rw [List.length_cons]; omega)]; rfl
theorem at1 {α : Type} {x y : α} {r : List α} : atI (x :: y :: r) 1 = some y := by
  unfold atI ixN; rw [if_pos (by omega), if_pos (by simp only [List.length_cons]; omega)]; rfl
theorem at2 {α : Type} {x y z : α} {r : List α} : atI (x :: y :: z :: r) 2 = some z := by
  unfold atI ixN; rw [if_pos (by omega), if_pos (by simp only [List.length_cons]; omega)]; rfl
theorem at3 {α : Type} {x y z u : α} {r : List α} : atI (x :: y :: z :: u :: r) 3 = some u := by
  unfold atI ixN; rw [if_pos (by omega), if_pos (by simp only [List.length_cons]; omega)]; rfl
theorem at4 {α : Type} {x y z u v : α} {r : List α} : atI (x :: y :: z :: u :: v :: r) 4 = some v := by
  unfold atI ixN; rw [if_pos (by omega), if_pos (by simp only [List.length_cons]; omega)]; rfl
theorem atI_nat {α : Type} {xs : List α} {i : Int} (h0 : 0 ≤ i) (h1 : i < xs.length) : atI xs i = xs[i.toNat]? := by
  unfold atI ixN; rw [if_pos h0, if_pos h1]; rfl
theorem ixN0 {n : Nat} : ixN (n + 1) 0 = some 0 := by unfold ixN; rw [if_pos (by omega), if_pos (by omega)]; rfl
theorem ixN1 {n : Nat} : ixN (n + 1 + 1) 1 = some 1 := by unfold ixN; rw [if_pos (by omega), if_pos (by omega)]; rfl
theorem ixN2 {n : Nat} : ixN (n + 1 + 1 + 1) 2 = some 2 := by unfold ixN; rw [if_pos (by omega), if_pos (by omega)]; rfl
theorem ev_oN : mON ρ S = .ok none S := rfl
def kOS (x : Mv) (S : Sg) : Res (Option Int) := match x with | .d (.int i) => .ok (some i) S | _ => .bad
theorem ev_oS {m : ME} : mOS m ρ S = (m ρ S).bind kOS := rfl
theorem oS_int {i : Int} : kOS (.d (.int i)) S = .ok (some i) S := rfl
def k3Sl (b : Bi) (x : Mv) (l : Option Int) : Option Int → Sg → Res Mv := fun u S => bearO b (gSl S x l u) S
def k2Sl (b : Bi) (x : Mv) (hi : MO) (ρ : Rho) : Option Int → Sg → Res Mv := fun l S => (hi ρ S).bind (k3Sl b x l)
def k1Sl (b : Bi) (lo hi : MO) (ρ : Rho) : Mv → Sg → Res Mv := fun x S => (lo ρ S).bind (k2Sl b x hi ρ)
theorem ev_sl {b : Bi} {a : ME} {lo hi : MO} : mSl b a lo hi ρ S = (a ρ S).bind (k1Sl b lo hi ρ) := rfl
theorem ev_sl1 {b : Bi} {lo hi : MO} {x : Mv} : k1Sl b lo hi ρ x S = (lo ρ S).bind (k2Sl b x hi ρ) := rfl
theorem ev_sl2 {b : Bi} {hi : MO} {x : Mv} {l : Option Int} : k2Sl b x hi ρ l S = (hi ρ S).bind (k3Sl b x l) := rfl
theorem ev_sl3 {b : Bi} {x : Mv} {l u : Option Int} : k3Sl b x l u S = bearO b (gSl S x l u) S := rfl
theorem sl_txt {z : Str} {l u : Option Int} (h : z.length ≤ sizeLine) : gSl S (.d (.str z)) l u = some (.val (.d (.str (cutS z l u)))) := if_pos h
theorem sl_lst {xs : List PyData} {l u : Option Int} : gSl S (.d (.list xs)) l u = some (.lst (cutM (xs.map .d) l u)) := rfl
def kRev (b : Bi) : Mv → Sg → Res Mv := fun x S => match x with
  | .d (.str z) => if z.length ≤ sizeLine then .ok (.d (.str (revS z))) S else .bad
  | x => match x.isList S with | some xs => bear b (.lst xs.reverse) S | none => .bad
theorem ev_rev {b : Bi} {m : ME} : mRev b m ρ S = (m ρ S).bind (kRev b) := by
  unfold mRev
  congr 1
theorem rev_str {b : Bi} {z : Str} (h : z.length ≤ sizeLine) : kRev b (.d (.str z)) S = .ok (.d (.str (revS z))) S := if_pos h
theorem rev_list {b : Bi} {xs : List PyData} : kRev b (.d (.list xs)) S = bear b (.lst (xs.map Mv.d).reverse) S := rfl
/-! methods -/
def k2BM (b : Bi) (g : Sg → Mv → List Mv → Option Nw) (x : Mv) : List Mv → Sg → Res Mv := fun xs S => bearO b (g S x xs) S
def k1BM (b : Bi) (T : String) (g : Sg → Mv → List Mv → Option Nw) (a : MA) (ρ : Rho) : Mv → Sg → Res Mv := fun x S => if tyM T x S = true then (a ρ S).bind (k2BM b g x) else .bad
theorem ev_bm {b : Bi} {T : String} {g : Sg → Mv → List Mv → Option Nw} {o : ME} {a : MA} : mBM b T g o a ρ S = (o ρ S).bind (k1BM b T g a ρ) := rfl
def cBM (c : Bool) (b : Bi) (g : Sg → Mv → List Mv → Option Nw) (a : MA) (ρ : Rho) (x : Mv) (S : Sg) : Res Mv := if c = true then (a ρ S).bind (k2BM b g x) else .bad
theorem ev_bm1 {b : Bi} {T : String} {g : Sg → Mv → List Mv → Option Nw} {a : MA} {x : Mv} : k1BM b T g a ρ x S = cBM (tyM T x S) b g a ρ x S := rfl
theorem cBM_t {b : Bi} {g : Sg → Mv → List Mv → Option Nw} {a : MA} {x : Mv} : cBM true b g a ρ x S = (a ρ S).bind (k2BM b g x) := rfl
theorem ev_bm2 {b : Bi} {g : Sg → Mv → List Mv → Option Nw} {x : Mv} {xs : List Mv} : k2BM b g x xs S = bearO b (g S x xs) S := rfl
def buO (o : Option (Mv × Sg)) : Res Mv := match o with | some (z, S') => .ok z S' | none => .bad
theorem buO_some {z : Mv} : buO (some (z, S)) = .ok z S := rfl
def k2BU (g : Sg → Mv → List Mv → Option (Mv × Sg)) (x : Mv) : List Mv → Sg → Res Mv := fun xs S => buO (g S x xs)
def k1BU (T : String) (g : Sg → Mv → List Mv → Option (Mv × Sg)) (a : MA) (ρ : Rho) : Mv → Sg → Res Mv := fun x S => if tyM T x S = true then (a ρ S).bind (k2BU g x) else .bad
theorem ev_bu {T : String} {g : Sg → Mv → List Mv → Option (Mv × Sg)} {o : ME} {a : MA} : mBU T g o a ρ S = (o ρ S).bind (k1BU T g a ρ) := rfl
def cBU (c : Bool) (g : Sg → Mv → List Mv → Option (Mv × Sg)) (a : MA) (ρ : Rho) (x : Mv) (S : Sg) : Res Mv := if c = true then (a ρ S).bind (k2BU g x) else .bad
theorem ev_bu1 {T : String} {g : Sg → Mv → List Mv → Option (Mv × Sg)} {a : MA} {x : Mv} : k1BU T g a ρ x S = cBU (tyM T x S) g a ρ x S := rfl
theorem cBU_t {g : Sg → Mv → List Mv → Option (Mv × Sg)} {a : MA} {x : Mv} : cBU true g a ρ x S = (a ρ S).bind (k2BU g x) := rfl
theorem ev_bu2 {g : Sg → Mv → List Mv → Option (Mv × Sg)} {x : Mv} {xs : List Mv} : k2BU g x xs S = buO (g S x xs) := rfl
theorem ty_str {T : String} {z : Str} : tyM T (.d (.str z)) S = (T == "str") := rfl
def tyO (T : String) (o : Option (List Mv)) : Bool := match o with | some _ => T == "list" | none => false
theorem tyO_some {T : String} {xs : List Mv} : tyO T (some xs) = (T == "list") := rfl
theorem ty_ref {T : String} {i : Nat} : tyM T (.ref i) S = tyO T (Mv.isList S (.ref i)) := rfl
theorem ty_own {T : String} {i : Nat} : tyM T (.own i) S = tyO T (Mv.isList S (.own i)) := rfl
theorem ty_list {T : String} {xs : List PyData} : tyM T (.d (.list xs)) S = (T == "list") := rfl
theorem beq_ll : (("list" : String) == "list") = true := by decide
theorem beq_ss : (("str" : String) == "str") = true := by decide
def celO (fl : Bool) (i : Nat) (o : Option (Bool × Mo)) : Option (Nat × Bool × Mo) := match o with | some (c, o) => if c = fl then some (i, fl, o) else none | none => none
theorem celO_some {fl : Bool} {i : Nat} {o : Mo} : celO fl i (some (fl, o)) = some (i, fl, o) := if_pos rfl
theorem cell_ref {i : Nat} : Mv.cell S (.ref i) = celO false i S[i]? := by
  unfold Mv.cell; simp only
  cases S[i]? with
  | none => rfl
  | some p => obtain ⟨c, o⟩ := p; cases c <;> rfl
theorem cell_own {i : Nat} : Mv.cell S (.own i) = celO true i S[i]? := by
  unfold Mv.cell; simp only
  cases S[i]? with
  | none => rfl
  | some p => obtain ⟨c, o⟩ := p; cases c <;> rfl
def appO (o : Option (Nat × Bool × Mo)) (y : Mv) (S : Sg) : Option (Mv × Sg) := match o with
  | some (i, b, .lst zs) => if y.free = true ∧ zs.length < sizeLine then some (.d .none, S.set i (b, .lst (zs ++ [y]))) else none
  | _ => none
theorem ev_append {x y : Mv} : uAppend S x [y] = appO (x.cell S) y S := rfl
theorem appO_some {y : Mv} {i : Nat} {b : Bool} {zs : List Mv} (h1 : y.free = true) (h2 : zs.length < sizeLine) : appO (some (i, b, .lst zs)) y S = some (.d .none, S.set i (b, .lst (zs ++ [y]))) := if_pos ⟨h1, h2⟩
def extO (o : Option (Nat × Bool × Mo)) (p : Option (List Mv)) (S : Sg) : Option (Mv × Sg) := match o, p with
  | some (i, b, .lst zs), some ys => if zs.length + ys.length ≤ sizeLine then some (.d .none, S.set i (b, .lst (zs ++ ys))) else none
  | _, _ => none
theorem ev_extend {x y : Mv} : uExtend S x [y] = extO (x.cell S) (y.isList S) S := rfl
theorem extO_some {i : Nat} {b : Bool} {zs ys : List Mv} (h2 : zs.length + ys.length ≤ sizeLine) : extO (some (i, b, .lst zs)) (some ys) S = some (.d .none, S.set i (b, .lst (zs ++ ys))) := if_pos h2
def popO (o : Option (Nat × Bool × Mo)) (S : Sg) : Option (Mv × Sg) := match o with
  | some (i, b, .lst zs) => (zs[zs.length - 1]?).map fun y => (y, S.set i (b, .lst zs.dropLast))
  | _ => none
theorem ev_pop {x : Mv} : uPop S x [] = popO (x.cell S) S := rfl
theorem popO_snoc {i : Nat} {b : Bool} {zs : List Mv} {y : Mv} : popO (some (i, b, .lst (zs ++ [y]))) S = some (y, S.set i (b, .lst zs)) := by
  unfold popO; simp
def k2Ind (z : Str) (xs : List Mv) (S : Sg) : Res Mv := match xs with
  | [.d (.str y)] => match Txt.index0 z y with | some k => .ok (.d (.int (k : Nat))) S | none => .exc exVal S
  | _ => .bad
def k1Ind (a : MA) (ρ : Rho) : Mv → Sg → Res Mv := fun x S => match x with
  | .d (.str z) => (a ρ S).bind (k2Ind z)
  | _ => .bad
theorem ev_ind {o : ME} {a : MA} : mIndex o a ρ S = (o ρ S).bind (k1Ind a ρ) := rfl
theorem ev_ind1 {a : MA} {z : Str} : k1Ind a ρ (.d (.str z)) S = (a ρ S).bind (k2Ind z) := rfl
theorem ind_some {z y : Str} {k : Nat} (h : Txt.index0 z y = some k) : k2Ind z [.d (.str y)] S = .ok (.d (.int (k : Nat))) S := by unfold k2Ind; simp only; rw [h]
def negO (x : Mv) (S : Sg) : Res Mv := match x with | .d (.int i) => .ok (.d (.int (-i))) S | _ => .bad
theorem ev_neg {a : ME} : mNeg a ρ S = (a ρ S).bind negO := rfl
theorem neg_int {i : Int} : negO (.d (.int i)) S = .ok (.d (.int (-i))) S := rfl
/-! walks -/
def itO (o : Option (List Mv)) (S : Sg) : Res (List Mv) := match o with | some xs => .ok xs S | none => .bad
def kIt : Mv → Sg → Res (List Mv) := fun x S => itO x.items S
theorem ev_iter {m : ME} : mIter m ρ S = (m ρ S).bind kIt := rfl
theorem ev_it {x : Mv} : kIt x S = itO x.items S := rfl
theorem itO_some {xs : List Mv} : itO (some xs) S = .ok xs S := rfl
theorem items_list {xs : List PyData} : Mv.items (.d (.list xs)) = some (xs.map .d) := rfl
theorem items_tup {xs : List PyData} : Mv.items (.d (.tuple xs)) = some (xs.map .d) := rfl
theorem items_str {z : Str} : Mv.items (.d (.str z)) = some (signs z) := rfl
noncomputable def kRg1 : List Mv → Sg → Res (List Mv) := fun xs S => match xs with | [.d (.int j)] => @ite _ (-(2 ^ 62) ≤ j ∧ j < 2 ^ 62) (Classical.propDecidable _) (.ok (rangeL 0 j.toNat) S) .bad | _ => .bad
theorem ev_rg1 {a : MA} : mRange1 a ρ S = (a ρ S).bind kRg1 := rfl
theorem rg1_int {j : Int} (h : -(2 ^ 62) ≤ j ∧ j < 2 ^ 62) : kRg1 [.d (.int j)] S = .ok (rangeL 0 j.toNat) S := if_pos h
def k2Lc (b : Bi) : List Mv → Sg → Res Mv := fun acc S => bear b (.lst acc) S
def k1Lc (b : Bi) (g : MG) (tt : MT) (te : ME) (vs : List Nat) (ρ : Rho) : List Mv → Sg → Res Mv := fun xs S => (lcLoop g tt te (wipeM ρ vs) xs [] S).nox.bind (k2Lc b)
theorem ev_lc {b : Bi} {mi : MA} {g : MG} {tt : MT} {te : ME} {vs : List Nat} : mLc b mi g tt te vs ρ S = (mi ρ S).bind (k1Lc b g tt te vs ρ) := rfl
theorem ev_lc1 {b : Bi} {g : MG} {tt : MT} {te : ME} {vs : List Nat} {xs : List Mv} : k1Lc b g tt te vs ρ xs S = (lcLoop g tt te (wipeM ρ vs) xs [] S).nox.bind (k2Lc b) := rfl
theorem ev_lc2 {b : Bi} {acc : List Mv} : k2Lc b acc S = bear b (.lst acc) S := rfl
theorem wipe_nil : wipeM ρ [] = ρ := rfl
theorem wipe_cons {v : Nat} {vs : List Nat} : wipeM ρ (v :: vs) = (wipeM ρ vs).set v none := rfl
/-! statements -/
def sq (r : RS) (b : MS) : RS := match r with | .nx ρ' S' => b ρ' S' | r => r
theorem ev_seq {a b : MS} : mSeq a b ρ S = sq (a ρ S) b := rfl
theorem seq_nx {b : MS} : sq (RS.nx ρ S) b = b ρ S := rfl
theorem seq_rt {x : Mv} {b : MS} : sq (RS.rt x S) b = .rt x S := rfl
theorem seq_exc {e : Ex} {b : MS} : sq (RS.exc e ρ S) b = .exc e ρ S := rfl
theorem seq_bk {b : MS} : sq (RS.bk ρ S) b = .bk ρ S := rfl
theorem seq_ct {b : MS} : sq (RS.ct ρ S) b = .ct ρ S := rfl
def nxO (o : Option Rho) (S : Sg) : RS := match o with | some ρ' => .nx ρ' S | none => .bad
def kAsg (g : MG) (ρ : Rho) : Mv → Sg → RS := fun x S => nxO (g S x ρ) S
theorem ev_asg {m : ME} {g : MG} : mAsg m g ρ S = (m ρ S).go ρ (kAsg g ρ) := rfl
theorem ev_asg1 {g : MG} {x : Mv} : kAsg g ρ x S = nxO (g S x ρ) S := rfl
theorem nxO_some : nxO (some ρ) S = .nx ρ S := rfl
theorem mg_name {i : Nat} {x : Mv} : mgName i S x ρ = some (ρ.set i (some x)) := rfl
theorem mg_nil : mgNil S [] ρ = some ρ := rfl
theorem mg_cons {g : MG} {r : MGs} {x : Mv} {xs : List Mv} : mgCons g r S (x :: xs) ρ = (g S x ρ).bind fun ρ' => r S xs ρ' := rfl
theorem mg_consN {i : Nat} {r : MGs} {x : Mv} {xs : List Mv} : mgCons (mgName i) r S (x :: xs) ρ = r S xs (ρ.set i (some x)) := rfl
theorem mg_tup {n : Nat} {g : MGs} {xs : List PyData} (h : (xs.map Mv.d).length = n) : mgTup n g S (.d (.tuple xs)) ρ = g S (xs.map .d) ρ := if_pos h
def kExpr (ρ : Rho) : Mv → Sg → RS := fun _ S => .nx ρ S
theorem ev_expr {m : ME} : mExpr m ρ S = (m ρ S).go ρ (kExpr ρ) := rfl
theorem ev_expr1 {x : Mv} : kExpr ρ x S = .nx ρ S := rfl
def kRet : Mv → Sg → RS := fun x S => .rt x S
theorem ev_ret {m : ME} : mRet m ρ S = (m ρ S).go ρ kRet := rfl
theorem ev_ret1 {x : Mv} : kRet x S = .rt x S := rfl
theorem ev_retN : mRetN ρ S = .rt (.d .none) S := rfl
theorem ev_skip : mSkip ρ S = .nx ρ S := rfl
theorem ev_brk : mBrk ρ S = .bk ρ S := rfl
theorem ev_cnt : mCnt ρ S = .ct ρ S := rfl
def kIf (a b : MS) (ρ : Rho) : Bool → Sg → RS := fun k S => if k = true then a ρ S else b ρ S
theorem ev_if {c : MT} {a b : MS} : mIfS c a b ρ S = (c ρ S).go ρ (kIf a b ρ) := rfl
theorem if_t {a b : MS} : kIf a b ρ true S = a ρ S := rfl
theorem if_f {a b : MS} : kIf a b ρ false S = b ρ S := rfl
def kFor (g : MG) (b : MS) (ρ : Rho) : List Mv → Sg → RS := fun xs S => mLoop g b xs ρ S
theorem ev_for {mi : MA} {g : MG} {b : MS} : mFor mi g b ρ S = (mi ρ S).go ρ (kFor g b ρ) := rfl
theorem ev_for1 {g : MG} {b : MS} {xs : List Mv} : kFor g b ρ xs S = mLoop g b xs ρ S := rfl
def fzO (o : Option (List PyData)) (S : Sg) (i : Nat) : Res Mv := match o with | some ds => .ok (.d (.list ds)) (S.set i (true, .gone)) | none => .bad
theorem ev_fz {m : ME} : mFz m ρ S = (m ρ S).bind fz := rfl
def fzC (i : Nat) (o : Option (Bool × Mo)) (S : Sg) : Res Mv := match o with
  | some (true, .lst xs) => fzO (allD xs) S i
  | _ => .bad
theorem fz_own {i : Nat} : fz (.own i) S = fzC i S[i]? S := by
  unfold fz fzC; simp only
  cases S[i]? with
  | none => rfl
  | some p => obtain ⟨c, o⟩ := p; cases o <;> cases c <;> rfl
theorem fzC_some {i : Nat} {xs : List Mv} : fzC i (some (true, .lst xs)) S = fzO (allD xs) S i := rfl
theorem fzO_some {i : Nat} {ds : List PyData} : fzO (some ds) S i = .ok (.d (.list ds)) (S.set i (true, .gone)) := rfl
theorem fz_d {x : PyData} : fz (.d x) S = .ok (.d x) S := rfl
theorem fz_ref {i : Nat} : fz (.ref i) S = .ok (.ref i) S := rfl
def stO (ρ : Rho) (o : Option Sg) : RS := match o with | some S => .nx ρ S | none => .bad
theorem stO_some : stO ρ (some S) = .nx ρ S := rfl
def k3St (ρ : Rho) (z x : Mv) : Mv → Sg → RS := fun y S => stO ρ (setIx S x y z)
def k2St (i : ME) (ρ : Rho) (z : Mv) : Mv → Sg → RS := fun x S => (i ρ S).go ρ (k3St ρ z x)
def k1St (o i : ME) (ρ : Rho) : Mv → Sg → RS := fun z S => (o ρ S).go ρ (k2St i ρ z)
theorem ev_st {v o i : ME} : mSetIx v o i ρ S = (v ρ S).go ρ (k1St o i ρ) := rfl
theorem ev_st1 {o i : ME} {z : Mv} : k1St o i ρ z S = (o ρ S).go ρ (k2St i ρ z) := rfl
theorem ev_st2 {i : ME} {z x : Mv} : k2St i ρ z x S = (i ρ S).go ρ (k3St ρ z x) := rfl
theorem ev_st3 {z x y : Mv} : k3St ρ z x y S = stO ρ (setIx S x y z) := rfl
def siO (o : Option (Nat × Bool × Mo)) (k : Int) (z : Mv) (S : Sg) : Option Sg := match o with
  | some (i, b, .lst zs) => if z.free = true then (ixN zs.length k).map fun j => S.set i (b, .lst (zs.set j z)) else none
  | _ => none
theorem ev_setIx {x z : Mv} {k : Int} : setIx S x (.d (.int k)) z = siO (x.cell S) k z S := rfl
theorem siO_some {i : Nat} {b : Bool} {zs : List Mv} {k : Int} {z : Mv} (h : z.free = true) : siO (some (i, b, .lst zs)) k z S = (ixN zs.length k).map fun j => S.set i (b, .lst (zs.set j z)) := if_pos h
def kPar (i j : Nat) (ρ : Rho) : List Mv → Sg → RS := fun xs S => match xs with | [x, y] => .nx ((ρ.set i (some x)).set j (some y)) S | _ => .bad
theorem ev_par {i j : Nat} {a : MA} : mPar i j a ρ S = (a ρ S).go ρ (kPar i j ρ) := rfl
theorem ev_par1 {i j : Nat} {x y : Mv} : kPar i j ρ [x, y] S = .nx ((ρ.set i (some x)).set j (some y)) S := rfl
/-! defs -/
def begin_ (n : Nat) (xs : List Mv) : Rho := xs.map some ++ List.replicate (n - xs.length) none
def nones : Nat → Rho
  | 0 => []
  | n + 1 => none :: nones n
theorem nones_zero : nones 0 = [] := rfl
theorem nones_succ {n : Nat} : nones (n + 1) = none :: nones n := rfl
theorem nones_eq : ∀ n, List.replicate n none = nones n
  | 0 => rfl
  | n + 1 => by rw [List.replicate_succ, nones_eq n]; rfl
theorem begin_eq {n : Nat} {xs : List Mv} : begin_ n xs = xs.map some ++ nones (n - xs.length) := by unfold begin_; rw [nones_eq]
theorem ev_fn {n : Nat} {m : MS} {xs : List Mv} : fnM n m xs S = fin S.length (m (begin_ n xs) S) := rfl
theorem fin_rt {x : PyData} {n : Nat} : fin n (.rt (.d x) S) = .ok (.d x) (trim n S) := rfl
theorem fin_ref {i : Nat} {n : Nat} : fin n (.rt (.ref i) S) = .ok (.ref i) (trim n S) := rfl
theorem fin_nx {n : Nat} : fin n (.nx ρ S) = .ok (.d .none) (trim n S) := rfl
theorem fin_exc {e : Ex} {n : Nat} (h : exFree e = true) : fin n (.exc e ρ S) = .exc e (trim n S) := if_pos h
theorem trim_same {n : Nat} (h : S.length = n) : trim n S = S := by
  subst h
  unfold trim
  rw [List.drop_length, List.take_length]
  rfl
theorem trim_app {n : Nat} {T : Sg} (h : S.length = n) (hT : T.all (·.1) = true) : trim n (S ++ T) = S := by
  subst h
  unfold trim
  rw [List.drop_left, if_pos hT, List.take_left]
/-! loops -/
theorem loop_nil {g : MG} {b : MS} : mLoop g b [] ρ S = .nx ρ S := rfl
/-- one turn that goes on -/
theorem loop_on {g : MG} {b : MS} {x : Mv} {xs : List Mv} {ρ1 ρ2 : Rho} {S2 : Sg} (h1 : g S x ρ = some ρ1) (h2 : b ρ1 S = .nx ρ2 S2) : mLoop g b (x :: xs) ρ S = mLoop g b xs ρ2 S2 := by
  simp only [mLoop]; rw [h1]; simp only; rw [h2]
theorem loop_ct {g : MG} {b : MS} {x : Mv} {xs : List Mv} {ρ1 ρ2 : Rho} {S2 : Sg} (h1 : g S x ρ = some ρ1) (h2 : b ρ1 S = .ct ρ2 S2) : mLoop g b (x :: xs) ρ S = mLoop g b xs ρ2 S2 := by
  simp only [mLoop]; rw [h1]; simp only; rw [h2]
theorem loop_rt {g : MG} {b : MS} {x y : Mv} {xs : List Mv} {ρ1 : Rho} {S2 : Sg} (h1 : g S x ρ = some ρ1) (h2 : b ρ1 S = .rt y S2) : mLoop g b (x :: xs) ρ S = .rt y S2 := by
  simp only [mLoop]; rw [h1]; simp only; rw [h2]
theorem loop_bk {g : MG} {b : MS} {x : Mv} {xs : List Mv} {ρ1 ρ2 : Rho} {S2 : Sg} (h1 : g S x ρ = some ρ1) (h2 : b ρ1 S = .bk ρ2 S2) : mLoop g b (x :: xs) ρ S = .nx ρ2 S2 := by
  simp only [mLoop]; rw [h1]; simp only; rw [h2]
theorem lc_nil {g : MG} {tt : MT} {te : ME} {acc : List Mv} : lcLoop g tt te ρ [] acc S = .ok acc S := rfl
theorem lc_yes {g : MG} {te : ME} {x y : Mv} {xs acc : List Mv} {ρ1 : Rho} {S2 : Sg} (h1 : g S x ρ = some ρ1) (h2 : te ρ1 S = .ok y S2) (h3 : y.free = true) (h4 : acc.length < sizeLine) : lcLoop g mYes te ρ (x :: xs) acc S = lcLoop g mYes te ρ xs (acc ++ [y]) S2 := by
  simp only [lcLoop]; rw [h1]; simp only [mYes, Res.bind, if_true]; rw [h2]; simp only; rw [if_pos ⟨h3, h4⟩]
theorem lc_in {g : MG} {tt : MT} {te : ME} {x y : Mv} {xs acc : List Mv} {ρ1 : Rho} {S1 S2 : Sg} (h1 : g S x ρ = some ρ1) (h0 : tt ρ1 S = .ok true S1) (h2 : te ρ1 S1 = .ok y S2) (h3 : y.free = true) (h4 : acc.length < sizeLine) : lcLoop g tt te ρ (x :: xs) acc S = lcLoop g tt te ρ xs (acc ++ [y]) S2 := by
  simp only [lcLoop]; rw [h1]; simp only; rw [h0]; simp only [Res.bind, if_true]; rw [h2]; simp only; rw [if_pos ⟨h3, h4⟩]
theorem lc_out {g : MG} {tt : MT} {te : ME} {x : Mv} {xs acc : List Mv} {ρ1 : Rho} {S1 : Sg} (h1 : g S x ρ = some ρ1) (h0 : tt ρ1 S = .ok false S1) : lcLoop g tt te ρ (x :: xs) acc S = lcLoop g tt te ρ xs acc S1 := by
  simp only [lcLoop]; rw [h1]; simp only; rw [h0]; simp [Res.bind]
theorem wh_on {c : MT} {b : MS} {n : Nat} {ρ2 : Rho} {S1 S2 : Sg} (h : c ρ S = .ok true S1) (h2 : b ρ S1 = .nx ρ2 S2) : mWhile c b (n + 1) ρ S = mWhile c b n ρ2 S2 := by
  simp only [mWhile]; rw [h]; simp only [Res.go, if_true]; rw [h2]
theorem wh_end {c : MT} {b : MS} {n : Nat} {S1 : Sg} (h : c ρ S = .ok false S1) : mWhile c b (n + 1) ρ S = .nx ρ S1 := by
  simp only [mWhile]; rw [h]; simp [Res.go]
/-- a comprehension whose items are reckoned one by one, the store as it is -/
theorem lc_map {g : MG} {te : ME} {f : Mv → Mv} : ∀ {xs acc : List Mv}, (∀ x ∈ xs, ∃ ρ1, g S x ρ = some ρ1 ∧ te ρ1 S = .ok (f x) S ∧ (f x).free = true) → acc.length + xs.length ≤ sizeLine → lcLoop g mYes te ρ xs acc S = .ok (acc ++ xs.map f) S
  | [], acc, _, _ => by rw [lc_nil, List.map_nil, List.append_nil]
  | x :: xs, acc, h, hl => by
    obtain ⟨ρ1, h1, h2, h3⟩ := h x (List.mem_cons_self ..)
    rw [List.length_cons] at hl
    rw [lc_yes h1 h2 h3 (by omega), lc_map (fun y hy => h y (List.mem_cons_of_mem _ hy)) (by rw [List.length_append, List.length_singleton]; omega), List.map_cons, List.append_assoc]
    rfl
end
end MM.Q
end
section
set_option Elab.async false
set_option linter.all false
set_option maxRecDepth 100000
set_option maxHeartbeats 4000000
set_option autoImplicit false
namespace MM.Q
open PySem PySem.Spec PyProof.Rows L2 MM

/-! ### texts by their codes -/
def st (l : List Nat) : Str := ⟨l.toArray⟩
abbrev cs (z : Str) : List Nat := z.cps.toList
theorem st_cs (z : Str) : st (cs z) = z := by unfold st cs; cases z; simp
theorem cs_st (l : List Nat) : cs (st l) = l := by simp [st, cs]
theorem st_inj {a b : List Nat} (h : st a = st b) : a = b := by rw [← cs_st a, ← cs_st b, h]
theorem st_len {l : List Nat} : (st l).length = l.length := by simp [st, Str.length]
theorem cs_len {z : Str} : (cs z).length = z.length := by simp [cs, Str.length]
theorem st_app {a b : List Nat} : st a ++ st b = st (a ++ b) := by
  have h : (st a ++ st b).cps = (st a).cps ++ (st b).cps := Str.cps_append _ _
  have : (st a ++ st b) = ⟨(st a).cps ++ (st b).cps⟩ := by
    cases e : st a ++ st b with
    | mk c => rw [e] at h; simp only at h; rw [h]
  rw [this]; simp [st]
theorem cs_app {a b : Str} : cs (a ++ b) = cs a ++ cs b := by rw [← st_cs a, ← st_cs b, st_app, cs_st, cs_st, cs_st]
theorem signs_st {l : List Nat} : signs (st l) = l.map fun c => .d (.str (st [c])) := by simp [signs, st]
theorem app_len {a b : Str} : (a ++ b).length = a.length + b.length := by rw [← cs_len, cs_app, List.length_append, cs_len, cs_len]
theorem cutS_st {l : List Nat} {lo hi : Option Int} : cutS (st l) lo hi = st ((l.drop (HT.sIx l.length 0 lo)).take (HT.sIx l.length l.length hi - HT.sIx l.length 0 lo)) := by
  unfold cutS
  rw [show (st l).length = l.length from st_len]
  simp [st]
theorem revS_st {l : List Nat} : revS (st l) = st l.reverse := by simp [revS, st]
theorem cutS_mem {z : Str} {lo hi : Option Int} {c : Nat} (h : c ∈ cs (cutS z lo hi)) : c ∈ cs z := by
  unfold cutS at h
  simp only [cs] at h
  exact List.mem_of_mem_drop (List.mem_of_mem_take h)
theorem cutS_len {z : Str} {lo hi : Option Int} : (cutS z lo hi).length ≤ z.length := cutS_length z lo hi
theorem revS_len {z : Str} : (revS z).length = z.length := by simp [revS, Str.length]
theorem revS_mem {z : Str} {c : Nat} (h : c ∈ cs (revS z)) : c ∈ cs z := by simpa [revS, cs] using h
theorem strRep_mem {z : Str} {n c : Nat} (h : c ∈ cs (strRep z n)) : c ∈ cs z := by
  simp only [strRep, cs] at h
  simp only [List.mem_flatten, List.mem_replicate] at h
  obtain ⟨l, ⟨_, rfl⟩, h⟩ := h
  exact h
/-- the signs of a text are below the line of code points -/
theorem strOk_of {z : Str} (h : ∀ c ∈ cs z, c < 0x110000) : PyData.strOk z = true := by
  unfold PyData.strOk
  rw [Array.all_eq_true]
  intro i hi
  exact decide_eq_true (h _ (by simp [cs]))
theorem in_sign {c : Nat} {z : Str} : inStr (st [c]) z = decide (c ∈ cs z) := by
  have h := PySem.StrLaws.found_one z c
  unfold inStr
  exact h

/-! cuts of lists -/
def cutL {α : Type} (xs : List α) (lo hi : Option Int) : List α := (xs.drop (HT.sIx xs.length 0 lo)).take (HT.sIx xs.length xs.length hi - HT.sIx xs.length 0 lo)
theorem cutM_L {xs : List Mv} {lo hi : Option Int} : cutM xs lo hi = cutL xs lo hi := rfl
theorem cutL_map {α β : Type} {f : α → β} {xs : List α} {lo hi : Option Int} : cutL (xs.map f) lo hi = (cutL xs lo hi).map f := by
  unfold cutL; rw [List.length_map, ← List.map_drop, ← List.map_take]
theorem cutL_mem {α : Type} {xs : List α} {lo hi : Option Int} {x : α} (h : x ∈ cutL xs lo hi) : x ∈ xs := List.mem_of_mem_drop (List.mem_of_mem_take h)
theorem cutL_len {α : Type} {xs : List α} {lo hi : Option Int} : (cutL xs lo hi).length ≤ xs.length := by
  unfold cutL; rw [List.length_take, List.length_drop]; omega
theorem cutL_to {α : Type} {xs : List α} {k : Nat} : cutL xs none (some (k : Int)) = xs.take k := by
  unfold cutL; rw [HT.sIx_none, HT.sIx_nat, List.drop_zero, Nat.sub_zero]
  rcases Nat.le_total k xs.length with h | h
  · rw [Nat.min_eq_left h]
  · rw [Nat.min_eq_right h, List.take_length, List.take_of_length_le h]
theorem cutL_from {α : Type} {xs : List α} {k : Nat} : cutL xs (some (k : Int)) none = xs.drop k := by
  unfold cutL; rw [HT.sIx_none, HT.sIx_nat]
  rcases Nat.le_total k xs.length with h | h
  · rw [Nat.min_eq_left h, List.take_of_length_le (by rw [List.length_drop]; omega)]
  · rw [Nat.min_eq_right h, List.drop_length, List.drop_of_length_le h, List.take_nil]

/-! ### built-ins by their arguments -/
section
variable {S : Sg}
def lenO (o : Option Nat) : Option Nw := match o with | some n => some (.val (.d (.int (n : Nat)))) | none => none
theorem ev_len {x : Mv} : gLen S [x] = lenO (x.len S) := by
  show (x.len S).map _ = _
  cases x.len S <;> rfl
theorem lenO_some {n : Nat} : lenO (some n) = some (.val (.d (.int (n : Nat)))) := rfl
theorem len_str {z : Str} (h : z.length ≤ sizeLine) : Mv.len S (.d (.str z)) = some z.length := if_pos h
theorem len_list {xs : List PyData} : Mv.len S (.d (.list xs)) = some xs.length := by simp [Mv.len, Mv.seq]
theorem len_tup {xs : List PyData} : Mv.len S (.d (.tuple xs)) = some xs.length := by simp [Mv.len, Mv.seq]
def lnO (o : Option (Bool × List Mv)) : Option Nat := match o with | some q => some q.2.length | none => none
theorem lnO_some {b : Bool} {xs : List Mv} : lnO (some (b, xs)) = some xs.length := rfl
theorem len_ref {i : Nat} : Mv.len S (.ref i) = lnO (Mv.seq S (.ref i)) := by
  show (Mv.seq S (.ref i)).map _ = _
  cases Mv.seq S (.ref i) <;> rfl
theorem len_own {i : Nat} : Mv.len S (.own i) = lnO (Mv.seq S (.own i)) := by
  show (Mv.seq S (.own i)).map _ = _
  cases Mv.seq S (.own i) <;> rfl
def lisO (o : Option (Bool × List Mv)) : Option Nw := match o with | some q => some (.lst q.2) | none => none
theorem ev_lst_l {x : List PyData} : gList S [.d (.list x)] = some (.lst (x.map .d)) := rfl
theorem ev_lst_t {x : List PyData} : gList S [.d (.tuple x)] = some (.lst (x.map .d)) := rfl
theorem ev_lst_r {i : Nat} : gList S [.ref i] = lisO (Mv.seq S (.ref i)) := by
  show (Mv.seq S (.ref i)).map _ = _
  cases Mv.seq S (.ref i) <;> rfl
theorem ev_lst_o {i : Nat} : gList S [.own i] = lisO (Mv.seq S (.own i)) := by
  show (Mv.seq S (.own i)).map _ = _
  cases Mv.seq S (.own i) <;> rfl
theorem lst_str {z : Str} (h : z.length ≤ sizeLine) : gList S [.d (.str z)] = some (.lst (signs z)) := if_pos h
theorem lisO_some {b : Bool} {xs : List Mv} : lisO (some (b, xs)) = some (.lst xs) := rfl
def l1O {α : Type} (p : List Mv → Option α) (f : α → Nw) (o : Option (List Mv)) : Option Nw := match o with | some ys => (p ys).map f | none => none
theorem ev_l1 {α : Type} {p : List Mv → Option α} {f : α → Nw} {x : Mv} : gList1 p f S [x] = l1O p f (x.isList S) := by
  show (x.isList S).bind _ = _
  cases x.isList S <;> rfl
theorem l1O_some {α : Type} {p : List Mv → Option α} {f : α → Nw} {ys : List Mv} : l1O p f (some ys) = (p ys).map f := rfl
theorem ev_sum {x : Mv} : gSum S [x] = l1O intsM (fun ns => .val (.d (.int ns.sum))) (x.isList S) := ev_l1
theorem ev_all {x : Mv} : gAll S [x] = l1O boolsM (fun bs => .val (.d (.bool (bs.all id)))) (x.isList S) := ev_l1
theorem ev_any {x : Mv} : gAny S [x] = l1O boolsM (fun bs => .val (.d (.bool (bs.any id)))) (x.isList S) := ev_l1
theorem ints_map (ns : List Int) : intsM ((ns.map PyData.int).map .d) = some ns := by
  induction ns with
  | nil => rfl
  | cons x r ih => show (intsM _).map (x :: ·) = _; rw [ih]; rfl
theorem bools_map (ns : List Bool) : boolsM ((ns.map PyData.bool).map .d) = some ns := by
  induction ns with
  | nil => rfl
  | cons x r ih => show (boolsM _).map (x :: ·) = _; rw [ih]; rfl
theorem strs_map (ns : List Str) : strsM ((ns.map PyData.str).map .d) = some ns := by
  induction ns with
  | nil => rfl
  | cons x r ih => show (strsM _).map (x :: ·) = _; rw [ih]; rfl
theorem divmod_int {i j : Int} (h : 0 < j ∧ j < 1073741824) : gDivmod S [.d (.int i), .d (.int j)] = some (.tup [.d (.int (i / j)), .d (.int (i % j))]) := if_pos h
def isiO (o : Option String) (c : String) : Option Nw := match o with | some t => (kitB t c).map fun b => .val (.d (.bool b)) | none => none
theorem ev_isi {x : Mv} {c : String} : gIsi S [x, .ty c] = isiO (x.kind S) c := by
  show (x.kind S).bind _ = _
  cases x.kind S <;> rfl
theorem isiO_some {t c : String} : isiO (some t) c = (kitB t c).map fun b => .val (.d (.bool b)) := rfl
theorem kind_str {z : Str} : Mv.kind S (.d (.str z)) = some "str" := rfl
theorem kind_int {z : Int} : Mv.kind S (.d (.int z)) = some "int" := rfl
theorem kind_bool {z : Bool} : Mv.kind S (.d (.bool z)) = some "bool" := rfl
theorem kind_none : Mv.kind S (.d .none) = some "NoneType" := rfl
theorem kind_dict {z : List (PyData × PyData)} : Mv.kind S (.d (.dict z)) = some "dict" := rfl
theorem kind_list {z : List PyData} : Mv.kind S (.d (.list z)) = some "list" := rfl
theorem kind_tup {z : List PyData} : Mv.kind S (.d (.tuple z)) = some "tuple" := rfl
theorem kit_ss : kitB "str" "str" = some true := by decide +kernel
theorem kit_is : kitB "int" "str" = some false := by decide +kernel
theorem kit_bs : kitB "bool" "str" = some false := by decide +kernel
theorem kit_ns : kitB "NoneType" "str" = some false := by decide +kernel
theorem kit_ds : kitB "dict" "str" = some false := by decide +kernel
theorem kit_ls : kitB "list" "str" = some false := by decide +kernel
theorem kit_ts : kitB "tuple" "str" = some false := by decide +kernel
def repO (o : Option PyData) : Option Nw := match o with
  | some d => if shows d = true ∧ d.showable = true ∧ d.shown.length ≤ sizeLine then some (.val (.d (.str d.shown))) else none
  | none => none
theorem ev_repr {x : Mv} : gRepr S [x] = repO (x.data S) := by
  show (x.data S).bind _ = _
  cases x.data S <;> rfl
theorem repO_some {d : PyData} (h1 : shows d = true) (h2 : d.showable = true) (h3 : d.shown.length ≤ sizeLine) : repO (some d) = some (.val (.d (.str d.shown))) := if_pos ⟨h1, h2, h3⟩
def joinO (a : Str) (o : Option (List Str)) : Option Nw := match o with
  | some ys => if (ys.map (·.length)).sum + ys.length * a.length ≤ 16777216 then some (.val (.d (.str (Txt.join a ys)))) else none
  | none => none
def jnO (a : Str) (o : Option (Bool × List Mv)) : Option Nw := match o with | some q => joinO a (strsM q.2) | none => none
theorem ev_join {a : Str} {x : Mv} : gJoin S (.d (.str a)) [x] = jnO a (x.seq S) := by
  show (x.seq S).bind _ = _
  cases x.seq S with
  | none => rfl
  | some q =>
    show (strsM q.2).bind _ = joinO a (strsM q.2)
    cases strsM q.2 <;> rfl
theorem jnO_some {a : Str} {b : Bool} {xs : List Mv} : jnO a (some (b, xs)) = joinO a (strsM xs) := rfl
theorem joinO_some {a : Str} {ys : List Str} (h : (ys.map (·.length)).sum + ys.length * a.length ≤ 16777216) : joinO a (some ys) = some (.val (.d (.str (Txt.join a ys)))) := if_pos h
/-- nothing between -/
theorem join_nil_st : ∀ ls : List (List Nat), Txt.join (st []) (ls.map st) = st ls.flatten := by
  intro ls
  rw [TL.join_eq]
  have key : ∀ ls : List (List Nat), cs (Str.join (st []) (ls.map st)) = ls.flatten := by
    intro ls
    have h := TL.tl_join (st []) (ls.map st)
    have e : TL.tl (st []) = [] := by simp [st]
    rw [e] at h
    rw [show cs (Str.join (st []) (ls.map st)) = TL.tl (Str.join (st []) (ls.map st)) from rfl, h]
    have g : ∀ ps : List (List Nat), TL.joinL [] ps = ps.flatten := by
      intro ps
      induction ps with
      | nil => rfl
      | cons p r ih =>
        cases r with
        | nil => simp [TL.joinL]
        | cons q r => rw [show TL.joinL [] (p :: q :: r) = p ++ ([] ++ TL.joinL [] (q :: r)) from rfl, ih]; simp
    rw [g, List.map_map]
    congr 1
    have : (TL.tl ∘ st) = id := by funext l; simp [st]
    rw [this, List.map_id]
  rw [← st_cs (Str.join (st []) (ls.map st)), key]
end

/-! texts by their codes: operators -/
section
variable {S : Sg}
theorem len_st {l : List Nat} (h : l.length ≤ sizeLine) : Mv.len S (.d (.str (st l))) = some l.length := by rw [len_str (by rw [st_len]; exact h), st_len]
theorem add_st {a b : List Nat} (h : a.length + b.length ≤ sizeLine) : gAdd S (.d (.str (st a))) (.d (.str (st b))) = some (.val (.d (.str (st (a ++ b))))) := by
  rw [add_str (by rw [st_len, st_len]; exact h), st_app]
theorem strRep_st {l : List Nat} {n : Nat} : strRep (st l) n = st (List.replicate n l).flatten := by simp [strRep, st]
theorem rep_len {α : Type} {n : Nat} {l : List α} : (List.replicate n l).flatten.length = n * l.length := by simp
theorem mul_st {l : List Nat} {n : Int} (h : -(2 ^ 63) ≤ n ∧ n < 2 ^ 63 ∧ n.toNat * l.length ≤ sizeLine) : gMul S (.d (.str (st l))) (.d (.int n)) = some (.val (.d (.str (st (List.replicate n.toNat l).flatten)))) := by
  rw [mul_str ⟨h.1, h.2.1, by rw [st_len, Nat.mul_comm]; exact h.2.2⟩, strRep_st]
theorem ix_st {l : List Nat} {i : Int} (h : l.length ≤ sizeLine) : gIx S (.d (.str (st l))) (.d (.int i)) = (atI l i).map fun c => .d (.str (st [c])) := by
  rw [ix_str (by rw [st_len]; exact h), show (st l).cps.toList = l from cs_st l]
  rfl
theorem sl_st {l : List Nat} {lo hi : Option Int} (h : l.length ≤ sizeLine) : gSl S (.d (.str (st l))) lo hi = some (.val (.d (.str (st (cutL l lo hi))))) := by
  rw [sl_txt (by rw [st_len]; exact h), cutS_st]; rfl
theorem rev_st {b : Bi} {l : List Nat} (h : l.length ≤ sizeLine) : kRev b (.d (.str (st l))) S = .ok (.d (.str (st l.reverse))) S := by
  rw [rev_str (by rw [st_len]; exact h), revS_st]
theorem items_st {l : List Nat} : Mv.items (.d (.str (st l))) = some (l.map fun c => .d (.str (st [c]))) := by rw [items_str, signs_st]
theorem eqv_st {a b : List Nat} : PyData.eqv (.str (st a)) (.str (st b)) = decide (a = b) := by
  rw [eqv_str]
  by_cases h : a = b
  · subst h; rw [decide_eq_true rfl]; exact beq_self_eq_true _
  · rw [decide_eq_false h]; exact beq_eq_false_iff_ne.mpr fun e => h (st_inj e)
theorem st_dec {a b : List Nat} : decide (st a = st b) = decide (a = b) := by
  by_cases h : a = b
  · subst h; rw [decide_eq_true rfl, decide_eq_true rfl]
  · rw [decide_eq_false h, decide_eq_false fun e => h (st_inj e)]
theorem ok_st {l : List Nat} (h : ∀ c ∈ l, c < 0x110000) : SeqAt.shaped (.str (st l)) = true := by
  rw [shaped_str]; exact strOk_of fun c hc => h c (by rw [cs_st] at hc; exact hc)
end
theorem flat_ones (ts : List Nat) : (ts.map fun c => [c]).flatten = ts := by
  induction ts with
  | nil => rfl
  | cons t r ih => simp [ih]
theorem join_ones (ts : List Nat) : Txt.join (st []) (ts.map fun c => st [c]) = st ts := by
  have := join_nil_st (ts.map fun c => [c])
  rw [List.map_map, flat_ones] at this
  exact this
theorem allD_mapf {α : Type} {f : α → PyData} {xs : List α} : allD (xs.map fun a => .d (f a)) = some (xs.map f) := by
  rw [show (xs.map fun a => Mv.d (f a)) = (xs.map f).map .d from by rw [List.map_map]; rfl]
  exact allD_map _
theorem strs_mapf {α : Type} {f : α → Str} {xs : List α} : strsM ((xs.map fun a => PyData.str (f a)).map .d) = some (xs.map f) := by
  rw [show (xs.map fun a => PyData.str (f a)) = (xs.map f).map .str from by rw [List.map_map]; rfl]
  exact strs_map _
theorem ints_mapf {α : Type} {f : α → Int} {xs : List α} : intsM ((xs.map fun a => PyData.int (f a)).map .d) = some (xs.map f) := by
  rw [show (xs.map fun a => PyData.int (f a)) = (xs.map f).map .int from by rw [List.map_map]; rfl]
  exact ints_map _
theorem bools_mapf {α : Type} {f : α → Bool} {xs : List α} : boolsM ((xs.map fun a => PyData.bool (f a)).map .d) = some (xs.map f) := by
  rw [show (xs.map fun a => PyData.bool (f a)) = (xs.map f).map .bool from by rw [List.map_map]; rfl]
  exact bools_map _
theorem join_ones_some {ts : List Nat} (h : ts.length ≤ 16777216) : joinO (st []) (some (ts.map fun c => st [c])) = some (.val (.d (.str (st ts)))) := by
  rw [joinO_some, join_ones]
  have : ((ts.map fun c => st [c]).map (·.length)).sum = ts.length := by
    clear h
    induction ts with
    | nil => rfl
    | cons t r ih => rw [List.map_cons, List.map_cons, List.sum_cons, ih, st_len, List.length_cons]; simp; omega
  rw [this, st_len]
  simpa using h
def slO (o : Option (List Mv)) (lo hi : Option Int) : Option Nw := match o with | some xs => some (.lst (cutL xs lo hi)) | none => none
theorem sl_own {S : Sg} {i : Nat} {lo hi : Option Int} : gSl S (.own i) lo hi = slO (Mv.isList S (.own i)) lo hi := rfl
theorem sl_ref {S : Sg} {i : Nat} {lo hi : Option Int} : gSl S (.ref i) lo hi = slO (Mv.isList S (.ref i)) lo hi := rfl
theorem sl_list {S : Sg} {xs : List PyData} {lo hi : Option Int} : gSl S (.d (.list xs)) lo hi = some (.lst ((cutL xs lo hi).map .d)) := by
  rw [← cutL_map]; rfl
theorem slO_some {lo hi : Option Int} {xs : List Mv} : slO (some xs) lo hi = some (.lst (cutL xs lo hi)) := rfl
def catO (o p : Option (List Mv)) : Option Nw := match o, p with
  | some xs, some ys => if xs.length + ys.length ≤ sizeLine then some (Nw.lst (xs ++ ys)) else none
  | _, _ => none
theorem add_own {S : Sg} {i : Nat} {y : Mv} : gAdd S (.own i) y = catO (Mv.isList S (.own i)) (Mv.isList S y) := rfl
theorem add_ref {S : Sg} {i : Nat} {y : Mv} : gAdd S (.ref i) y = catO (Mv.isList S (.ref i)) (Mv.isList S y) := rfl
theorem add_list {S : Sg} {xs : List PyData} {y : Mv} : gAdd S (.d (.list xs)) y = catO (some (xs.map .d)) (Mv.isList S y) := by
  cases y <;> rfl
theorem catO_some {xs ys : List Mv} (h : xs.length + ys.length ≤ sizeLine) : catO (some xs) (some ys) = some (.lst (xs ++ ys)) := if_pos h
/-! ### loops and comprehensions by an invariant -/
section
variable {ρ : Rho} {S : Sg}
theorem lc_mapF {α : Type} {g : MG} {te : ME} {h k : α → Mv} : ∀ {l : List α} {acc : List Mv}, (∀ a ∈ l, ∃ ρ1, g S (h a) ρ = some ρ1 ∧ te ρ1 S = .ok (k a) S ∧ (k a).free = true) → acc.length + l.length ≤ sizeLine → lcLoop g mYes te ρ (l.map h) acc S = .ok (acc ++ l.map k) S
  | [], acc, _, _ => by rw [List.map_nil, lc_nil, List.map_nil, List.append_nil]
  | a :: l, acc, hh, hl => by
    obtain ⟨ρ1, h1, h2, h3⟩ := hh a (List.mem_cons_self ..)
    rw [List.length_cons] at hl
    rw [List.map_cons, lc_yes h1 h2 h3 (by omega), lc_mapF (fun y hy => hh y (List.mem_cons_of_mem _ hy)) (by rw [List.length_append, List.length_singleton]; omega), List.map_cons, List.append_assoc]
    rfl
/-- what each turn does to the store is told by P, its items by R -/
theorem lc_ex {g : MG} {te : ME} {P : Sg → Prop} {R : Mv → Prop} : ∀ {xs acc : List Mv} {S : Sg}, (∀ x ∈ xs, ∀ S, P S → ∃ ρ1 y S2, g S x ρ = some ρ1 ∧ te ρ1 S = .ok y S2 ∧ y.free = true ∧ R y ∧ P S2) → P S → acc.length + xs.length ≤ sizeLine →
    ∃ ys S2, lcLoop g mYes te ρ xs acc S = .ok (acc ++ ys) S2 ∧ ys.length = xs.length ∧ (∀ y ∈ ys, R y) ∧ P S2
  | [], acc, S, _, hp, _ => ⟨[], S, by rw [lc_nil, List.append_nil], rfl, fun _ h => (nomatch h), hp⟩
  | x :: xs, acc, S, hh, hp, hl => by
    obtain ⟨ρ1, y, S1, h1, h2, h3, h4, h5⟩ := hh x (List.mem_cons_self ..) S hp
    rw [List.length_cons] at hl
    obtain ⟨ys, S2, e, e1, e2, e3⟩ := lc_ex (acc := acc ++ [y]) (fun z hz => hh z (List.mem_cons_of_mem _ hz)) h5 (by rw [List.length_append, List.length_singleton]; omega)
    refine ⟨y :: ys, S2, ?_, by simp [e1], fun z hz => ?_, e3⟩
    · rw [lc_yes h1 h2 h3 (by omega), e, List.append_assoc]; rfl
    · rcases List.mem_cons.mp hz with rfl | hz
      · exact h4
      · exact e2 z hz
theorem loop_ex {g : MG} {b : MS} {P : Rho → Sg → Prop} : ∀ {xs : List Mv} {ρ : Rho} {S : Sg}, (∀ x ∈ xs, ∀ ρ S, P ρ S → ∃ ρ1 ρ2 S2, g S x ρ = some ρ1 ∧ b ρ1 S = .nx ρ2 S2 ∧ P ρ2 S2) → P ρ S → ∃ ρ2 S2, mLoop g b xs ρ S = .nx ρ2 S2 ∧ P ρ2 S2
  | [], ρ, S, _, hp => ⟨ρ, S, rfl, hp⟩
  | x :: xs, ρ, S, hh, hp => by
    obtain ⟨ρ1, ρ2, S2, h1, h2, h3⟩ := hh x (List.mem_cons_self ..) ρ S hp
    obtain ⟨ρ3, S3, e, e1⟩ := loop_ex (fun z hz => hh z (List.mem_cons_of_mem _ hz)) h3
    exact ⟨ρ3, S3, by rw [loop_on h1 h2, e], e1⟩
/-- a loop that folds a state σ -/
theorem loop_fold {α β : Type} {g : MG} {b : MS} {h : α → Mv} {f : β → α → β} {R : β → Rho} {I : β → Prop} : ∀ {l : List α} {s : β}, (∀ a ∈ l, ∀ s, I s → ∃ ρ1, g S (h a) (R s) = some ρ1 ∧ ∀ x, b ρ1 S = x → x = .nx (R (f s a)) S) → (∀ a ∈ l, ∀ s, I s → I (f s a)) → I s → mLoop g b (l.map h) (R s) S = .nx (R (l.foldl f s)) S
  | [], s, _, _, _ => rfl
  | a :: l, s, hh, hi, hs => by
    obtain ⟨ρ1, h1, h2⟩ := hh a (List.mem_cons_self ..) s hs
    rw [List.map_cons, loop_on h1 (h2 _ rfl)]
    exact loop_fold (fun y hy => hh y (List.mem_cons_of_mem _ hy)) (fun y hy => hi y (List.mem_cons_of_mem _ hy)) (hi a (List.mem_cons_self ..) s hs)
/-- turns that are counted -/
theorem loop_exN {ρ : Rho} {S : Sg} {g : MG} {b : MS} {N : Nat} {P : Nat → Rho → Sg → Prop} : ∀ {xs : List Mv} {i : Nat} {ρ : Rho} {S : Sg}, (∀ x ∈ xs, ∀ i < N, ∀ ρ S, P i ρ S → ∃ ρ1 ρ2 S2, g S x ρ = some ρ1 ∧ b ρ1 S = .nx ρ2 S2 ∧ P (i + 1) ρ2 S2) → P i ρ S → i + xs.length ≤ N → ∃ ρ2 S2, mLoop g b xs ρ S = .nx ρ2 S2 ∧ P (i + xs.length) ρ2 S2
  | [], i, ρ, S, _, hp, _ => ⟨ρ, S, rfl, hp⟩
  | x :: xs, i, ρ, S, hh, hp, hi => by
    rw [List.length_cons] at hi
    obtain ⟨ρ1, ρ2, S2, h1, h2, h3⟩ := hh x (List.mem_cons_self ..) i (by omega) ρ S hp
    obtain ⟨ρ3, S3, e, e1⟩ := loop_exN (ρ := ρ) (S := S) (fun z hz => hh z (List.mem_cons_of_mem _ hz)) h3 (by omega)
    exact ⟨ρ3, S3, by rw [loop_on h1 h2, e], by rw [List.length_cons, Nat.add_comm xs.length 1, ← Nat.add_assoc]; exact e1⟩
theorem pick_all {α : Type} {p : α → Prop} {h : α → Mv} : ∀ {ys : List Mv}, (∀ y ∈ ys, ∃ a, p a ∧ y = h a) → ∃ as : List α, ys = as.map h ∧ ∀ a ∈ as, p a
  | [], _ => ⟨[], rfl, fun _ h => (nomatch h)⟩
  | y :: ys, hh => by
    obtain ⟨as, e, h2⟩ := pick_all fun z hz => hh z (List.mem_cons_of_mem _ hz)
    obtain ⟨a, ha, e1⟩ := hh y (List.mem_cons_self ..)
    exact ⟨a :: as, by rw [e, e1]; rfl, fun z hz => by
      rcases List.mem_cons.mp hz with rfl | hz
      · exact ha
      · exact h2 z hz⟩
theorem atI_mem {α : Type} {xs : List α} {i : Int} (h0 : 0 ≤ i) (h1 : i < xs.length) : ∃ x ∈ xs, atI xs i = some x := by
  have hi : i.toNat < xs.length := by omega
  exact ⟨xs[i.toNat], List.getElem_mem hi, by rw [atI_nat h0 h1, List.getElem?_eq_getElem hi]⟩
end
end MM.Q
end
section
set_option Elab.async false
set_option linter.all false
set_option maxRecDepth 100000
set_option maxHeartbeats 4000000
set_option autoImplicit false
namespace MM.Q
open PySem PySem.Spec PyProof.Rows L2 MM
section
variable {ρ : Rho} {S : Sg}
theorem mg_tupL {n : Nat} {g : MGs} {xs : List PyData} (h : (xs.map Mv.d).length = n) : mgTup n g S (.d (.list xs)) ρ = g S (xs.map .d) ρ := if_pos h
/-! chains -/
def k3Ch (g' : Sg → Mv → Mv → Option Nw) (y : Mv) : Mv → Sg → Res Mv := fun z S => bearO .ref (g' S y z) S
def k2Ch (g g' : Sg → Mv → Mv → Option Nw) (c : ME) (ρ : Rho) (x : Mv) : Mv → Sg → Res Mv := fun y S => chF g' c ρ y S (g S x y)
def k1Ch (g g' : Sg → Mv → Mv → Option Nw) (b c : ME) (ρ : Rho) : Mv → Sg → Res Mv := fun x S => (b ρ S).bind (k2Ch g g' c ρ x)
variable {g g' : Sg → Mv → Mv → Option Nw} {a b c : ME} {x y z : Mv}
theorem ev_ch : mChain g g' a b c ρ S = (a ρ S).bind (k1Ch g g' b c ρ) := rfl
theorem ev_ch1 : k1Ch g g' b c ρ x S = (b ρ S).bind (k2Ch g g' c ρ x) := rfl
theorem ev_ch2 : k2Ch g g' c ρ x y S = chF g' c ρ y S (g S x y) := rfl
theorem ch_t : chF g' c ρ y S (some (.val (.d (.bool true)))) = (c ρ S).bind (k3Ch g' y) := rfl
theorem ch_f : chF g' c ρ y S (some (.val (.d (.bool false)))) = .ok (.d (.bool false)) S := rfl
theorem ev_ch3 : k3Ch g' y z S = bearO .ref (g' S y z) S := rfl
/-! texts' methods -/
theorem starts_str {i j : Str} : gStarts S (.d (.str i)) [.d (.str j)] = some (.val (.d (.bool (Txt.startswith i j)))) := rfl
theorem ends_str {i j : Str} : gEnds S (.d (.str i)) [.d (.str j)] = some (.val (.d (.bool (Txt.endswith i j)))) := rfl
theorem upper_str {i : Str} (h : i.length ≤ 5592405) : gUpper S (.d (.str i)) [] = some (.val (.d (.str (Txt.upper i)))) := if_pos h
theorem part_str {i j : Str} (h : (j.length == 0) = false ∧ i.length ≤ sizeLine) : gPart S (.d (.str i)) [.d (.str j)] = some (.tup [.d (.str (Txt.partition i j).1), .d (.str (Txt.partition i j).2.1), .d (.str (Txt.partition i j).2.2)]) := if_pos h
/-! f-strings -/
def kFmt (x : Mv) (S : Sg) : Res Mv := match x with
  | .d (.str y) => if y.length ≤ sizeLine then .ok (.d (.str y)) S else .bad
  | .d (.int i) => if i.natAbs.log2 < 1920 then .ok (.d (.str (toString i))) S else .bad
  | _ => .bad
def kFmtR (x : Mv) (S : Sg) : Res Mv := match x with
  | .d (.str y) => if (reprText y).length ≤ sizeLine then .ok (.d (.str (reprText y))) S else .bad
  | .d (.int i) => if i.natAbs.log2 < 1920 then .ok (.d (.str (toString i))) S else .bad
  | _ => .bad
theorem ev_fmt {m : ME} : mFmt m ρ S = (m ρ S).bind kFmt := by
  unfold mFmt
  congr 1
theorem ev_fmtR {m : ME} : mFmtR m ρ S = (m ρ S).bind kFmtR := by
  unfold mFmtR
  congr 1
theorem fmt_str {i : Str} (h : i.length ≤ sizeLine) : kFmt (.d (.str i)) S = .ok (.d (.str i)) S := if_pos h
theorem fmt_st {l : List Nat} (h : l.length ≤ sizeLine) : kFmt (.d (.str (st l))) S = .ok (.d (.str (st l))) S := fmt_str (by rw [st_len]; exact h)
theorem fmt_int {i : Int} (h : i.natAbs.log2 < 1920) : kFmt (.d (.int i)) S = .ok (.d (.str (toString i))) S := if_pos h
def k2Js (ms : List ME) (ρ : Rho) : Str → Sg → Res Mv := fun z S => mJs ms z ρ S
def k1Js (ms : List ME) (acc : Str) (ρ : Rho) : Mv → Sg → Res Mv := fun x S => jsF (jsS acc x) S (k2Js ms ρ)
theorem ev_js_nil {acc : Str} : mJs [] acc ρ S = .ok (.d (.str acc)) S := rfl
theorem ev_js_cons {m : ME} {ms : List ME} {acc : Str} : mJs (m :: ms) acc ρ S = (m ρ S).bind (k1Js ms acc ρ) := rfl
theorem ev_js1 {ms : List ME} {acc : Str} {x : Mv} : k1Js ms acc ρ x S = jsF (jsS acc x) S (k2Js ms ρ) := rfl
theorem ev_js2 {ms : List ME} {acc : Str} : k2Js ms ρ acc S = mJs ms acc ρ S := rfl
theorem jsF_some {z : Str} {f : Str → Sg → Res Mv} : jsF (some z) S f = f z S := rfl
theorem empty_st : Str.empty = st [] := rfl
theorem js_st {i j : List Nat} (h : i.length + j.length ≤ sizeLine) : jsS (st i) (.d (.str (st j))) = some (st (i ++ j)) := by
  show (if (st i ++ st j).length ≤ sizeLine then some (st i ++ st j) else none) = _
  rw [st_app]
  exact if_pos (by rw [st_len, List.length_append]; exact h)
/-! dicts -/
def k3Pr (x y : Mv) : List (Mv × Mv) → Sg → Res (List (Mv × Mv)) := fun ps S => .ok ((x, y) :: ps) S
def k2Pr (r : List (ME × ME)) (ρ : Rho) (x : Mv) : Mv → Sg → Res (List (Mv × Mv)) := fun y S => (mPairs r ρ S).bind (k3Pr x y)
def k1Pr (b : ME) (r : List (ME × ME)) (ρ : Rho) : Mv → Sg → Res (List (Mv × Mv)) := fun x S => (b ρ S).bind (k2Pr r ρ x)
theorem ev_pr_nil : mPairs [] ρ S = .ok [] S := rfl
theorem ev_pr_cons {r : List (ME × ME)} : mPairs ((a, b) :: r) ρ S = (a ρ S).bind (k1Pr b r ρ) := rfl
theorem ev_pr1 {r : List (ME × ME)} : k1Pr b r ρ x S = (b ρ S).bind (k2Pr r ρ x) := rfl
theorem ev_pr2 {r : List (ME × ME)} : k2Pr r ρ x y S = (mPairs r ρ S).bind (k3Pr x y) := rfl
theorem ev_pr3 {ps : List (Mv × Mv)} : k3Pr x y ps S = .ok ((x, y) :: ps) S := rfl
def kDct : List (Mv × Mv) → Sg → Res Mv := fun qs S => dctF S (keysM qs)
theorem ev_dct {ps : List (ME × ME)} : mDct ps ρ S = (mPairs ps ρ S).bind kDct := rfl
theorem ev_dct1 {qs : List (Mv × Mv)} : kDct qs S = dctF S (keysM qs) := rfl
theorem keys_one {k : Str} {d : PyData} : keysM [(.d (.str k), .d d)] = some [(.inr k, d)] := rfl
theorem dctF_one {k : Str} {d : PyData} : dctF S (some [(.inr k, d)]) = .ok (.d (.dict [(.str k, d)])) S := rfl
/-! tuples of lists, of texts -/
theorem tup_list {xs : List PyData} : gTuple S [.d (.list xs)] = some (.tup (xs.map .d)) := rfl
theorem tup_tup {xs : List PyData} : gTuple S [.d (.tuple xs)] = some (.val (.d (.tuple xs))) := rfl
theorem tup_str {i : Str} (h : i.length ≤ sizeLine) : gTuple S [.d (.str i)] = some (.tup (signs i)) := if_pos h
theorem tup_st {l : List Nat} (h : l.length ≤ sizeLine) : gTuple S [.d (.str (st l))] = some (.tup (l.map fun c => .d (.str (st [c])))) := by rw [tup_str (by rw [st_len]; exact h), signs_st]
theorem lst_st {l : List Nat} (h : l.length ≤ sizeLine) : gList S [.d (.str (st l))] = some (.lst (l.map fun c => .d (.str (st [c])))) := by rw [lst_str (by rw [st_len]; exact h), signs_st]
/-! so many times -/
theorem mul_list {xs : List PyData} {k : Int} (h : -(2 ^ 63) ≤ k ∧ k < 2 ^ 63 ∧ xs.length * k.toNat ≤ sizeLine) : gMul S (.d (.list xs)) (.d (.int k)) = some (.lst ((List.replicate k.toNat xs).flatten.map .d)) := by
  show repSq S (.d (.list xs)) k = _
  unfold repSq
  show (if -(2 ^ 63) ≤ k ∧ k < 2 ^ 63 ∧ (xs.map Mv.d).length * k.toNat ≤ sizeLine then some (Nw.lst (List.replicate k.toNat (xs.map Mv.d)).flatten) else none) = _
  rw [List.length_map, if_pos h, List.map_flatten, List.map_replicate]
theorem mul_tup {xs : List PyData} {k : Int} (h : xs ≠ [] ∧ 2 ≤ k ∧ k ≤ 1000 ∧ xs.length ≤ 1000) : gMul S (.d (.tuple xs)) (.d (.int k)) = some (.tup ((List.replicate k.toNat xs).flatten.map .d)) := by
  show repSq S (.d (.tuple xs)) k = _
  unfold repSq
  show (if (xs.map Mv.d) ≠ [] ∧ 2 ≤ k ∧ k ≤ 1000 ∧ (xs.map Mv.d).length ≤ 1000 then some (Nw.tup (List.replicate k.toNat (xs.map Mv.d)).flatten) else none) = _
  rw [List.length_map, if_pos ⟨fun e => h.1 (List.map_eq_nil_iff.mp e), h.2⟩, List.map_flatten, List.map_replicate]
/-! pop at a place -/
def popK (o : Option (Nat × Bool × Mo)) (k : Int) (S : Sg) : Option (Mv × Sg) := match o with
  | some (i, b, .lst zs) => if -(2 ^ 63) ≤ k ∧ k < 2 ^ 63 then (seqIndex? k zs.length).bind fun j => (zs[j]?).map fun y => (y, S.set i (b, .lst (zs.eraseIdx j))) else none
  | _ => none
theorem ev_popK {k : Int} : uPop S x [.d (.int k)] = popK (x.cell S) k S := rfl
theorem popK_some {i : Nat} {b : Bool} {zs : List Mv} {k : Int} {y : Mv} (h0 : 0 ≤ k) (h1 : k < zs.length) (h2 : zs.length ≤ 1000000) (hy : zs[k.toNat]? = some y) : popK (some (i, b, .lst zs)) k S = some (y, S.set i (b, .lst (zs.eraseIdx k.toNat))) := by
  unfold popK
  simp only
  rw [if_pos ⟨by omega, by omega⟩]
  have e : seqIndex? k zs.length = some k.toNat := by
    have n1 : ¬ k < 0 := by omega
    have c1 : (decide (0 ≤ k) && decide (k < (zs.length : Int))) = true := by simp [h0, h1]
    show (if (decide (0 ≤ (if k < 0 then k + zs.length else k)) && decide ((if k < 0 then k + zs.length else k) < (zs.length : Int))) = true then some (if k < 0 then k + zs.length else k).toNat else none) = _
    rw [if_neg n1, if_pos c1]
  rw [e]
  simp [hy]
/-! in lists -/
def inO (neg : Bool) (d : Option PyData) (o : Option PyData) : Option Nw := match d, o with
  | some d, some (.list ds) => if SeqAt.shaped d = true ∧ SeqAt.shaped (.list ds) = true then some (.val (.d (.bool (if neg then !ds.any (fun z => PyData.eqv z d) else ds.any (fun z => PyData.eqv z d))))) else none
  | _, _ => none
theorem in_own {neg : Bool} {i : Nat} : gInN neg S x (.own i) = inO neg (x.data S) (Mv.data S (.own i)) := by
  unfold gInN inO
  split
  · rename_i h; cases h
  · rfl
theorem in_ref {neg : Bool} {i : Nat} : gInN neg S x (.ref i) = inO neg (x.data S) (Mv.data S (.ref i)) := by
  unfold gInN inO
  split
  · rename_i h; cases h
  · rfl
theorem in_list {neg : Bool} {xs : List PyData} : gInN neg S x (.d (.list xs)) = inO neg (x.data S) (some (.list xs)) := by
  unfold gInN inO
  split
  · rename_i h; cases h
  · rfl
theorem inO_t {d : PyData} {ds : List PyData} (h1 : SeqAt.shaped d = true) (h2 : SeqAt.shaped (.list ds) = true) : inO true (some d) (some (.list ds)) = some (.val (.d (.bool (!ds.any (fun z => PyData.eqv z d))))) := if_pos ⟨h1, h2⟩
theorem inO_f {d : PyData} {ds : List PyData} (h1 : SeqAt.shaped d = true) (h2 : SeqAt.shaped (.list ds) = true) : inO false (some d) (some (.list ds)) = some (.val (.d (.bool (ds.any (fun z => PyData.eqv z d))))) := if_pos ⟨h1, h2⟩
theorem shaped_strs {ls : List (List Nat)} (h : ∀ l ∈ ls, ∀ c ∈ l, c < 0x110000) : SeqAt.shaped (.list (ls.map fun l => .str (st l))) = true ∧ SeqAt.shaped (.tuple (ls.map fun l => .str (st l))) = true := by
  have key : ∀ x ∈ (ls.map fun l => PyData.str (st l)), x.canLay0 = true ∧ x.depth = 0 := by
    intro x hx
    obtain ⟨l, hl, rfl⟩ := List.mem_map.mp hx
    have := ok_st (h l hl)
    rw [shaped_str] at this
    exact ⟨by simpa [PyData.canLay0] using this, rfl⟩
  exact shaped_flat key
theorem any_strs {ls : List (List Nat)} {l : List Nat} : ((ls.map fun l => PyData.str (st l)).any fun z => PyData.eqv z (.str (st l))) = decide (l ∈ ls) := by
  induction ls with
  | nil => simp
  | cons a r ih =>
    rw [List.map_cons, List.any_cons, ih, eqv_st]
    by_cases e : a = l
    · subst e; simp
    · have : ¬ l = a := fun h => e h.symm
      simp [e, this]
theorem lc_filterF {α : Type} {g : MG} {tt : MT} {te : ME} {h k : α → Mv} {p : α → Bool} : ∀ {l : List α} {acc : List Mv}, (∀ a ∈ l, ∃ ρ1, g S (h a) ρ = some ρ1 ∧ tt ρ1 S = .ok (p a) S ∧ (p a = true → te ρ1 S = .ok (k a) S ∧ (k a).free = true)) → acc.length + l.length ≤ sizeLine → lcLoop g tt te ρ (l.map h) acc S = .ok (acc ++ (l.filter p).map k) S
  | [], acc, _, _ => by rw [List.map_nil, lc_nil, List.filter_nil, List.map_nil, List.append_nil]
  | a :: l, acc, hh, hl => by
    obtain ⟨ρ1, h1, h2, h3⟩ := hh a (List.mem_cons_self ..)
    rw [List.length_cons] at hl
    have ih := fun acc (hz : acc.length + l.length ≤ sizeLine) => lc_filterF (acc := acc) (fun y hy => hh y (List.mem_cons_of_mem _ hy)) hz
    cases e : p a with
    | true =>
      rw [e] at h2
      obtain ⟨h4, h5⟩ := h3 e
      rw [List.map_cons, lc_in h1 h2 h4 h5 (by omega), ih _ (by rw [List.length_append, List.length_singleton]; omega), List.filter_cons_of_pos e, List.map_cons, List.append_assoc]
      rfl
    | false =>
      rw [e] at h2
      rw [List.map_cons, lc_out h1 h2, ih _ (by omega), List.filter_cons_of_neg (by simp [e])]
theorem all_map_id {α : Type} {f : α → Bool} {l : List α} : (l.map f).all id = l.all f := by induction l <;> simp_all
theorem filter_not_empty {α : Type} {p : α → Bool} {l : List α} : (l.filter fun a => !p a).isEmpty = l.all p := by
  induction l with
  | nil => rfl
  | cons a r ih =>
    rw [List.all_cons, ← ih]
    cases e : p a
    · rw [List.filter_cons_of_pos (by simp [e])]; rfl
    · rw [List.filter_cons_of_neg (by simp [e])]; rfl
theorem sub_st {l : List Nat} {c i : Nat} : Builtin.Str.subAt (st l) (st [c]) i = decide ((l.drop i).take 1 = [c]) := by
  unfold Builtin.Str.subAt
  show (l.toArray.extract i (i + [c].length) == #[c]) = _
  rw [show [c].length = 1 from rfl]
  by_cases h : (l.drop i).take 1 = [c]
  · rw [decide_eq_true h]
    refine beq_iff_eq.mpr (Array.toList_inj.mp ?_)
    simp [List.extract_eq_take_drop]
    exact h
  · rw [decide_eq_false h]
    refine beq_eq_false_iff_ne.mpr fun e => h ?_
    have := congrArg Array.toList e
    simp [List.extract_eq_take_drop] at this
    exact this
theorem starts_one {l : List Nat} {c : Nat} : Txt.startswith (st l) (st [c]) = decide (l.take 1 = [c]) := by
  unfold Txt.startswith
  rw [sub_st, st_len, st_len, List.drop_zero]
  cases l <;> simp
theorem ends_one {l : List Nat} {c : Nat} : Txt.endswith (st l) (st [c]) = decide (l.drop (l.length - 1) = [c]) := by
  unfold Txt.endswith
  rw [sub_st, st_len, st_len, List.length_singleton]
  have e : (l.drop (l.length - 1)).take 1 = l.drop (l.length - 1) := List.take_of_length_le (by rw [List.length_drop]; omega)
  rw [e]
  cases l with
  | nil => simp
  | cons a r =>
    rw [show (decide (0 + 1 ≤ (a :: r).length)) = true from decide_eq_true (by rw [List.length_cons]; omega), Bool.true_and]
theorem cutL_last {α : Type} {l : List α} : cutL l (some (-1)) none = l.drop (l.length - 1) := by
  unfold cutL
  rw [HT.sIx_none]
  have e : HT.sIx l.length 0 (some (-1)) = l.length - 1 := by
    show (if (-1 : Int) < 0 then (-1 + (l.length : Int)).toNat else min (Int.toNat (-1)) l.length) = _
    rw [if_pos (by decide)]
    omega
  rw [e]
  exact List.take_of_length_le (by rw [List.length_drop]; omega)
theorem cutL_one {α : Type} {l : List α} : cutL l none (some 1) = l.take 1 := cutL_to (k := 1)
theorem cutL_ab {α : Type} {l : List α} {a b : Nat} (h : b ≤ l.length) (h2 : a ≤ b) : cutL l (some (a : Int)) (some (b : Int)) = (l.drop a).take (b - a) := by
  unfold cutL
  rw [HT.sIx_nat, HT.sIx_nat, Nat.min_eq_left h, Nat.min_eq_left (by omega)]
theorem cutL_neg1 {α : Type} {l : List α} {a : Nat} (h : a ≤ l.length) : cutL l (some (a : Int)) (some (-1)) = (l.drop a).take (l.length - 1 - a) := by
  unfold cutL
  have e : HT.sIx l.length l.length (some (-1)) = l.length - 1 := by
    show (if (-1 : Int) < 0 then (-1 + (l.length : Int)).toNat else min (Int.toNat (-1)) l.length) = _
    rw [if_pos (by decide)]
    omega
  rw [HT.sIx_nat, Nat.min_eq_left h, e]
theorem seq_of {a b : MS} {ρ1 : Rho} {S1 : Sg} (h : a ρ S = .nx ρ1 S1) : mSeq a b ρ S = b ρ1 S1 := by rw [ev_seq, h]; rfl
/-- a walk over 0 .. n-1 -/
theorem loop_rg {g : MG} {b : MS} {n : Nat} {P : Nat → Rho → Sg → Prop} (h : ∀ i < n, ∀ ρ S, P i ρ S → ∃ ρ1 ρ2 S2, g S (.d (.int (i : Nat))) ρ = some ρ1 ∧ b ρ1 S = .nx ρ2 S2 ∧ P (i + 1) ρ2 S2) : ∀ (k i : Nat) (ρ : Rho) (S : Sg), i + k = n → P i ρ S → ∃ ρ2 S2, mLoop g b ((List.range' i k).map fun j : Nat => .d (.int (0 + (j : Int)))) ρ S = .nx ρ2 S2 ∧ P n ρ2 S2
  | 0, i, ρ, S, e, hp => ⟨ρ, S, rfl, by rw [← e]; exact hp⟩
  | k + 1, i, ρ, S, e, hp => by
    obtain ⟨ρ1, ρ2, S2, h1, h2, h3⟩ := h i (by omega) ρ S hp
    obtain ⟨ρ3, S3, e3, h4⟩ := loop_rg h k (i + 1) ρ2 S2 (by omega) h3
    refine ⟨ρ3, S3, ?_, h4⟩
    rw [List.range'_succ, List.map_cons, loop_on (ρ1 := ρ1) (by rw [Int.zero_add]; exact h1) h2]
    exact e3
theorem loop_range {g : MG} {b : MS} {n : Nat} {P : Nat → Rho → Sg → Prop} (h : ∀ i < n, ∀ ρ S, P i ρ S → ∃ ρ1 ρ2 S2, g S (.d (.int (i : Nat))) ρ = some ρ1 ∧ b ρ1 S = .nx ρ2 S2 ∧ P (i + 1) ρ2 S2) (hp : P 0 ρ S) : ∃ ρ2 S2, mLoop g b (rangeL 0 n) ρ S = .nx ρ2 S2 ∧ P n ρ2 S2 := by
  unfold rangeL
  rw [List.range_eq_range']
  exact loop_rg h n 0 ρ S (by omega) hp
/-- a comprehension told by what it has so far -/
theorem lc_acc {g : MG} {te : ME} {N : Nat} {P : List Mv → Sg → Prop} : ∀ {xs acc : List Mv} {S : Sg}, (∀ x ∈ xs, ∀ acc S, acc.length < N → P acc S → ∃ ρ1 y S2, g S x ρ = some ρ1 ∧ te ρ1 S = .ok y S2 ∧ y.free = true ∧ P (acc ++ [y]) S2) → P acc S → acc.length + xs.length = N → N ≤ sizeLine →
    ∃ ys S2, lcLoop g mYes te ρ xs acc S = .ok ys S2 ∧ ys.length = N ∧ P ys S2
  | [], acc, S, _, hp, hN, _ => ⟨acc, S, rfl, by simpa using hN, hp⟩
  | x :: xs, acc, S, hh, hp, hN, hl => by
    rw [List.length_cons] at hN
    obtain ⟨ρ1, y, S1, h1, h2, h3, h4⟩ := hh x (List.mem_cons_self ..) acc S (by omega) hp
    obtain ⟨ys, S2, e, e1, e2⟩ := lc_acc (acc := acc ++ [y]) (fun z hz => hh z (List.mem_cons_of_mem _ hz)) h4 (by rw [List.length_append, List.length_singleton]; omega) hl
    exact ⟨ys, S2, by rw [lc_yes h1 h2 h3 (by omega), e], e1, e2⟩
theorem upper_st {l : List Nat} (h : ∀ c ∈ l, c < 128) : Txt.upper (st l) = st (l.map PyProof.Rows.up1) :=
  SX.upper_S (List.all_eq_true.mpr fun c hc => decide_eq_true (h c hc))
end
end MM.Q
end
section
set_option Elab.async false
set_option linter.all false
set_option maxRecDepth 100000
set_option maxHeartbeats 4000000
set_option autoImplicit false
namespace Law
open PySem PySem.Spec PyProof.Rows L2 MM
noncomputable section
def topS (i : Nat) : Stmt := PySem.Challenge.pw_madestore_k02_things_labels_marks_names.main.body.getD i (.Pass ⟨0, 0, 0, 0⟩)
def k_SIGNS : Str := ("\n !\"#$&'()*+,-./0123456789:;<=>?@ABCDEFGHIJKLMNOPQRSTUVWXYZ[\\]^_`abcdefghijklmnopqrstuvwxyz{|}~" : Str)
def k_LETTERS : Str := ("abcdefghijklmnopqrstuvwxyz" : Str)
def k_FIGURES : Str := ("0123456789abcdfghijklmnpqrsvwxyz" : Str)
def k_BEGIN : Str := ("#" : Str)
def k_BETWEEN : Str := ("-" : Str)
def k_END : Str := (";" : Str)
abbrev s_is_thing : Stmt := topS 7
abbrev N_is_thing : List Str := ["thing", "sign"]
theorem sc_is_thing : FnScope N_is_thing ["thing"] (defScope s_is_thing) := ⟨rfl, rfl, rfl, by decide +kernel, rfl, by decide +kernel, by decide +kernel⟩
def e_is_thing_1 : ME :=
  mBin .ref (gInN false) (mVar 1) (mC (.str k_SIGNS))
def m_is_thing : MS :=
  mRet (mAnd (mCB .frz gIsi (mCons (mVar 0) (mCons (mK (.ty "str")) (mNil)))) (mAnd (mBin .ref gLe (mCB .frz gLen (mCons (mVar 0) (mNil))) (mC (.int 400))) (mCB .frz gAll (mCons (mLc .frz (mIter (mVar 0)) (mgName 1) mYes (e_is_thing_1) [1]) (mNil)))))
def f_is_thing : List Mv → Sg → Res Mv := fnM N_is_thing.length m_is_thing
abbrev s_is_label : Stmt := topS 8
abbrev N_is_label : List Str := ["thing", "sign"]
theorem sc_is_label : FnScope N_is_label ["thing"] (defScope s_is_label) := ⟨rfl, rfl, rfl, by decide +kernel, rfl, by decide +kernel, by decide +kernel⟩
def e_is_label_1 : ME :=
  mBin .ref (gInN false) (mVar 1) (mC (.str k_LETTERS))
def m_is_label : MS :=
  mRet (mAnd (mCB .frz gIsi (mCons (mVar 0) (mCons (mK (.ty "str")) (mNil)))) (mAnd (mChain gLe gLe (mC (.int 1)) (mCB .frz gLen (mCons (mVar 0) (mNil))) (mC (.int 8))) (mCB .frz gAll (mCons (mLc .frz (mIter (mVar 0)) (mgName 1) mYes (e_is_label_1) [1]) (mNil)))))
def f_is_label : List Mv → Sg → Res Mv := fnM N_is_label.length m_is_label
abbrev s_is_mark : Stmt := topS 9
abbrev N_is_mark : List Str := ["thing", "sign"]
theorem sc_is_mark : FnScope N_is_mark ["thing"] (defScope s_is_mark) := ⟨rfl, rfl, rfl, by decide +kernel, rfl, by decide +kernel, by decide +kernel⟩
def e_is_mark_1 : ME :=
  mBin .ref (gInN false) (mVar 1) (mC (.str k_FIGURES))
def m_is_mark : MS :=
  mRet (mAnd (mCB .frz gIsi (mCons (mVar 0) (mCons (mK (.ty "str")) (mNil)))) (mAnd (mBin .ref (gEqN false) (mCB .frz gLen (mCons (mVar 0) (mNil))) (mC (.int 8))) (mCB .frz gAll (mCons (mLc .frz (mIter (mVar 0)) (mgName 1) mYes (e_is_mark_1) [1]) (mNil)))))
def f_is_mark : List Mv → Sg → Res Mv := fnM N_is_mark.length m_is_mark
abbrev s_name_with : Stmt := topS 16
abbrev N_name_with : List Str := ["mark", "label"]
theorem sc_name_with : FnScope N_name_with ["mark", "label"] (defScope s_name_with) := ⟨rfl, rfl, rfl, by decide +kernel, rfl, by decide +kernel, by decide +kernel⟩
def m_name_with : MS :=
  mRet (mJs [mFmt (mC (.str k_BEGIN)), mFmt (mVar 0), mFmt (mC (.str k_BETWEEN)), mFmt (mVar 1), mFmt (mC (.str k_END))] Str.empty)
def f_name_with : List Mv → Sg → Res Mv := fnM N_name_with.length m_name_with
abbrev s_mark_in : Stmt := topS 17
abbrev N_mark_in : List Str := ["name"]
theorem sc_mark_in : FnScope N_mark_in ["name"] (defScope s_mark_in) := ⟨rfl, rfl, rfl, by decide +kernel, rfl, by decide +kernel, by decide +kernel⟩
def m_mark_in : MS :=
  mRet (mSl .frz (mVar 0) (mOS (mC (.int 1))) (mOS (mC (.int 9))))
def f_mark_in : List Mv → Sg → Res Mv := fnM N_mark_in.length m_mark_in
abbrev s_label_in : Stmt := topS 18
abbrev N_label_in : List Str := ["name"]
theorem sc_label_in : FnScope N_label_in ["name"] (defScope s_label_in) := ⟨rfl, rfl, rfl, by decide +kernel, rfl, by decide +kernel, by decide +kernel⟩
def m_label_in : MS :=
  mRet (mSl .frz (mVar 0) (mOS (mBin .frz gAdd (mC (.int 9)) (mC (.int 1)))) (mOS (mNeg (mC (.int 1)))))
def f_label_in : List Mv → Sg → Res Mv := fnM N_label_in.length m_label_in
abbrev s_L_deck : Stmt := topS 20
abbrev N_L_deck : List Str := ["_law_script", "_law_cells", "_law_cell"]
theorem sc_L_deck : FnScope N_L_deck ["_law_script"] (defScope s_L_deck) := ⟨rfl, rfl, rfl, by decide +kernel, rfl, by decide +kernel, by decide +kernel⟩
def e_L_deck_1 : ME :=
  mBin .frz gMod (mVar 2) (mC (.int 1000003))
def m_L_deck : MS :=
  mSeq (mAsg (mCB .frz gList (mCons (mSl .frz (mVar 0) (mON) (mOS (mC (.int 63)))) (mNil))) (mgName 1))
    (mRet (mDisp .ref false (mCons (mRev .ref (mVar 1)) (mCons (mBin .frz gAdd (mCB .frz gSum (mCons (mLc .frz (mIter (mVar 1)) (mgName 2) mYes (e_L_deck_1) [2]) (mNil))) (mBin .frz gMul (mC (.int 7919)) (mCB .frz gLen (mCons (mVar 1) (mNil))))) (mCons (mC (.int 0)) (mNil))))))
def f_L_deck : List Mv → Sg → Res Mv := fnM N_L_deck.length m_L_deck
abbrev s_L_draw : Stmt := topS 21
abbrev N_L_draw : List Str := ["_law_deck_here", "_law_many", "_law_cell", "_law_mixed"]
theorem sc_L_draw : FnScope N_L_draw ["_law_deck_here", "_law_many"] (defScope s_L_draw) := ⟨rfl, rfl, rfl, by decide +kernel, rfl, by decide +kernel, by decide +kernel⟩
def m_L_draw : MS :=
  mSeq (mSetIx (mBin .frz gAdd (mIx (mVar 0) (mC (.int 2))) (mC (.int 1))) (mVar 0) (mC (.int 2)))
    (mSeq (mAsg (mIx (mVar 0) (mC (.int 1))) (mgName 2))
    (mSeq (mIfS (mTst (mBin .ref (gEqN true) (mIx (mVar 0) (mC (.int 0))) (mDisp .frz false (mNil)))) (mSeq (mAsg (mBU "list" uPop (mIx (mVar 0) (mC (.int 0))) mNil) (mgName 2))
    (mIfS (mTst (mBin .ref gGe (mVar 2) (mBin .frz gPow (mC (.int 10)) (mC (.int 18))))) (mSeq (mExpr (mBU "list" uAppend (mIx (mVar 0) (mC (.int 0))) (mCons (mBin .frz gFdiv (mVar 2) (mVar 1)) (mNil))))
    (mRet (mBin .frz gMod (mVar 2) (mVar 1)))) (mSkip))) (mSkip))
    (mSeq (mAsg (mBin .frz gMod (mBin .frz gMul (mBin .frz gAdd (mBin .frz gAdd (mBin .frz gMod (mVar 2) (mC (.int 2147483629))) (mBin .frz gMul (mC (.int 65537)) (mIx (mVar 0) (mC (.int 2))))) (mC (.int 19))) (mC (.int 48271))) (mC (.int 2147483647))) (mgName 3))
    (mSeq (mAsg (mBin .frz gMod (mBin .frz gAdd (mBin .frz gAdd (mBin .frz gMul (mVar 3) (mVar 3)) (mBin .frz gMul (mC (.int 69621)) (mIx (mVar 0) (mC (.int 2))))) (mC (.int 23))) (mC (.int 2147483587))) (mgName 3))
    (mRet (mBin .frz gMod (mBin .frz gFdiv (mBin .frz gMod (mBin .frz gAdd (mBin .frz gMul (mVar 3) (mVar 3)) (mBin .frz gMul (mC (.int 39373)) (mVar 3))) (mC (.int 2147483563))) (mC (.int 64))) (mVar 1)))))))
def f_L_draw : List Mv → Sg → Res Mv := fnM N_L_draw.length m_L_draw
abbrev s_L_signs : Stmt := topS 23
abbrev N_L_signs : List Str := ["_law_some"]
theorem sc_L_signs : FnScope N_L_signs [] (defScope s_L_signs) := ⟨rfl, rfl, rfl, by decide +kernel, rfl, by decide +kernel, by decide +kernel⟩
def m_L_signs : MS :=
  mSeq (mAsg (mC (.str ("\n !\"#$&'()*+,-./0123456789:;<=>?@ABCDEFGHIJKLMNOPQRSTUVWXYZ[\\]^_`" : Str))) (mgName 0))
    (mRet (mBin .frz gAdd (mVar 0) (mC (.str ("abcdefghijklmnopqrstuvwxyz{|}~" : Str)))))
def f_L_signs : List Mv → Sg → Res Mv := fnM N_L_signs.length m_L_signs
abbrev s_L_is_word : Stmt := topS 24
abbrev N_L_is_word : List Str := ["_law_it", "_law_sign"]
theorem sc_L_is_word : FnScope N_L_is_word ["_law_it"] (defScope s_L_is_word) := ⟨rfl, rfl, rfl, by decide +kernel, rfl, by decide +kernel, by decide +kernel⟩
def t_L_is_word_1 : MT :=
  mTst (mBin .ref (gInN true) (mVar 1) (mC (.str ("abcdefghijklmnopqrstuvwxyz" : Str))))
def m_L_is_word : MS :=
  mSeq (mIfS (mOrB (mNotB (mTruth (mCB .frz gIsi (mCons (mVar 0) (mCons (mK (.ty "str")) (mNil)))))) (mNotB (mTst (mChain gLe gLe (mC (.int 1)) (mCB .frz gLen (mCons (mVar 0) (mNil))) (mC (.int 8)))))) (mRet (mC (.bool false))) (mSkip))
    (mRet (mBin .ref (gEqN false) (mLc .frz (mIter (mVar 0)) (mgName 1) t_L_is_word_1 (mVar 1) [1]) (mDisp .frz false (mNil))))
def f_L_is_word : List Mv → Sg → Res Mv := fnM N_L_is_word.length m_L_is_word
abbrev s_L_is_mark : Stmt := topS 25
abbrev N_L_is_mark : List Str := ["_law_it", "_law_sign"]
theorem sc_L_is_mark : FnScope N_L_is_mark ["_law_it"] (defScope s_L_is_mark) := ⟨rfl, rfl, rfl, by decide +kernel, rfl, by decide +kernel, by decide +kernel⟩
def t_L_is_mark_1 : MT :=
  mTst (mBin .ref (gInN true) (mVar 1) (mC (.str ("0123456789abcdfghijklmnpqrsvwxyz" : Str))))
def m_L_is_mark : MS :=
  mSeq (mIfS (mOrB (mNotB (mTruth (mCB .frz gIsi (mCons (mVar 0) (mCons (mK (.ty "str")) (mNil)))))) (mTst (mBin .ref (gEqN true) (mCB .frz gLen (mCons (mVar 0) (mNil))) (mC (.int 8))))) (mRet (mC (.bool false))) (mSkip))
    (mRet (mBin .ref (gEqN false) (mLc .frz (mIter (mVar 0)) (mgName 1) t_L_is_mark_1 (mVar 1) [1]) (mDisp .frz false (mNil))))
def f_L_is_mark : List Mv → Sg → Res Mv := fnM N_L_is_mark.length m_L_is_mark
abbrev s_L_called : Stmt := topS 27
abbrev N_L_called : List Str := ["_law_like", "_law_word"]
theorem sc_L_called : FnScope N_L_called ["_law_like", "_law_word"] (defScope s_L_called) := ⟨rfl, rfl, rfl, by decide +kernel, rfl, by decide +kernel, by decide +kernel⟩
def m_L_called : MS :=
  mRet (mBin .frz gAdd (mBin .frz gAdd (mBin .frz gAdd (mBin .frz gAdd (mC (.str ("#" : Str))) (mVar 0)) (mC (.str ("-" : Str)))) (mVar 1)) (mC (.str (";" : Str))))
def f_L_called : List Mv → Sg → Res Mv := fnM N_L_called.length m_L_called
abbrev s_L_odd : Stmt := topS 30
abbrev N_L_odd : List Str := ["_law_written", "_law_some"]
theorem sc_L_odd : FnScope N_L_odd ["_law_written"] (defScope s_L_odd) := ⟨rfl, rfl, rfl, by decide +kernel, rfl, by decide +kernel, by decide +kernel⟩
def m_L_odd : MS :=
  mSeq (mAsg (mDisp .frz false (mCons (mC .none) (mCons (mC (.bool true)) (mCons (mC (.bool false)) (mCons (mC (.int 0)) (mCons (mC (.int 8)) (mCons (mNeg (mC (.int 1))) (mCons (mBin .frz gPow (mC (.int 10)) (mC (.int 39))) (mCons (mDisp .ref true (mNil)) (mCons (mDisp .frz false (mNil)) (mCons (mC (.dict [])) (mCons (mDisp .ref true (mCons (mVar 0) (mNil))) (mCons (mDisp .frz false (mCons (mVar 0) (mNil))) (mCons (mDct [(mVar 0, mVar 0)]) (mCons (mCB .frz gList (mCons (mVar 0) (mNil))) (mNil)))))))))))))))) (mgName 1))
    (mRet (mBin .frz gAdd (mVar 1) (mDisp .frz false (mCons (mCB .frz gTuple (mCons (mVar 0) (mNil))) (mCons (mDisp .ref true (mCons (mDisp .ref true (mCons (mVar 0) (mCons (mVar 0) (mNil)))) (mNil))) (mCons (mC (.str ("" : Str))) (mCons (mC (.str (";" : Str))) (mCons (mC (.str ("#" : Str))) (mCons (mC (.str ("#-;" : Str))) (mNil))))))))))
def f_L_odd : List Mv → Sg → Res Mv := fnM N_L_odd.length m_L_odd
abbrev s_is_name : Stmt := topS 15
abbrev N_is_name : List Str := ["thing"]
theorem sc_is_name : FnScope N_is_name ["thing"] (defScope s_is_name) := ⟨rfl, rfl, rfl, by decide +kernel, rfl, by decide +kernel, by decide +kernel⟩
def m_is_name : MS :=
  mSeq (mIfS (mOrB (mNotB (mTruth (mCB .frz gIsi (mCons (mVar 0) (mCons (mK (.ty "str")) (mNil)))))) (mOrB (mTst (mBin .ref gLe (mCB .frz gLen (mCons (mVar 0) (mNil))) (mBin .frz gAdd (mC (.int 9)) (mC (.int 1))))) (mTst (mBin .ref (gEqN true) (mIx (mVar 0) (mC (.int 9))) (mC (.str k_BETWEEN)))))) (mRet (mC (.bool false))) (mSkip))
    (mSeq (mIfS (mOrB (mNotB (mTruth (mBM .frz "str" gStarts (mVar 0) (mCons (mC (.str k_BEGIN)) (mNil))))) (mNotB (mTruth (mBM .frz "str" gEnds (mVar 0) (mCons (mC (.str k_END)) (mNil)))))) (mRet (mC (.bool false))) (mSkip))
    (mRet (mAnd (mCall 1 f_is_mark [] (mCons (mSl .frz (mVar 0) (mOS (mC (.int 1))) (mOS (mC (.int 9)))) (mNil))) (mCall 1 f_is_label [] (mCons (mSl .frz (mVar 0) (mOS (mBin .frz gAdd (mC (.int 9)) (mC (.int 1)))) (mOS (mNeg (mC (.int 1))))) (mNil))))))
def f_is_name : List Mv → Sg → Res Mv := fnM N_is_name.length m_is_name
abbrev s_L_words : Stmt := topS 22
abbrev N_L_words : List Str := ["_law_deck_here", "_law_many", "_law_letters", "_law_way", "_law_first", "_law_word", "_law_at", "_law_found", "_law_k", "_law_sign", "_law_one", "_law_left"]
theorem sc_L_words : FnScope N_L_words ["_law_deck_here", "_law_many"] (defScope s_L_words) := ⟨rfl, rfl, rfl, by decide +kernel, rfl, by decide +kernel, by decide +kernel⟩
def e_L_words_1 : ME :=
  mIx (mVar 2) (mCall 2 f_L_draw [] (mCons (mVar 0) (mCons (mC (.int 26)) (mNil))))
def b_L_words_1 : MS :=
  mSeq (mAsg (mIx (mVar 2) (mBin .frz gMod (mBin .frz gAdd (mVar 4) (mBin .frz gMul (mC (.int 5)) (mVar 8))) (mC (.int 26)))) (mgName 9))
    (mSeq (mAsg (mIx (mDisp .frz false (mCons (mVar 9) (mCons (mBin .frz gAdd (mBin .frz gAdd (mSl .frz (mVar 5) (mON) (mOS (mVar 6))) (mVar 9)) (mSl .frz (mVar 5) (mOS (mVar 6)) (mON))) (mCons (mSl .frz (mBin .frz gAdd (mVar 5) (mVar 9)) (mON) (mOS (mBin .frz gAdd (mBin .frz gMod (mVar 8) (mC (.int 8))) (mC (.int 1))))) (mNil))))) (mVar 3)) (mgName 10))
    (mIfS (mTst (mBin .ref (gInN true) (mVar 10) (mVar 7))) (mExpr (mBU "list" uAppend (mVar 7) (mCons (mVar 10) (mNil)))) (mSkip)))
def b_L_words_2 : MS :=
  mSeq (mAsg (mBin .frz gAdd (mC (.str ("qq" : Str))) (mIx (mVar 2) (mVar 8))) (mgName 10))
    (mIfS (mTst (mBin .ref (gInN true) (mVar 10) (mVar 7))) (mExpr (mBU "list" uAppend (mVar 7) (mCons (mVar 10) (mNil)))) (mSkip))
def e_L_words_2 : ME :=
  mBU "list" uPop (mVar 11) (mCons (mCall 2 f_L_draw [] (mCons (mVar 0) (mCons (mCB .frz gLen (mCons (mVar 11) (mNil))) (mNil)))) (mNil))
def m_L_words : MS :=
  mSeq (mAsg (mC (.str ("abcdefghijklmnopqrstuvwxyz" : Str))) (mgName 2))
    (mSeq (mPar 3 4 (mCons (mCall 2 f_L_draw [] (mCons (mVar 0) (mCons (mC (.int 3)) (mNil)))) (mCons (mCall 2 f_L_draw [] (mCons (mVar 0) (mCons (mC (.int 26)) (mNil)))) (mNil))))
    (mSeq (mAsg (mBM .frz "str" gJoin (mC (.str ("" : Str))) (mCons (mLc .frz (mRange1 (mCons (mC (.int 7)) (mNil))) (mgName 8) mYes (e_L_words_1) [8]) (mNil))) (mgName 5))
    (mSeq (mAsg (mCall 2 f_L_draw [] (mCons (mVar 0) (mCons (mC (.int 7)) (mNil)))) (mgName 6))
    (mSeq (mAsg (mDisp .own false (mNil)) (mgName 7))
    (mSeq (mFor (mRange1 (mCons (mC (.int 24)) (mNil))) (mgName 8) b_L_words_1)
    (mSeq (mFor (mRange1 (mCons (mC (.int 14)) (mNil))) (mgName 8) b_L_words_2)
    (mSeq (mAsg (mSl .own (mVar 7) (mON) (mOS (mBin .frz gAdd (mVar 1) (mC (.int 2))))) (mgName 11))
    (mRet (mLc .frz (mRange1 (mCons (mVar 1) (mNil))) (mgName 8) mYes (e_L_words_2) [8])))))))))
def f_L_words : List Mv → Sg → Res Mv := fnM N_L_words.length m_L_words
abbrev s_L_is_called : Stmt := topS 26
abbrev N_L_is_called : List Str := ["_law_it"]
theorem sc_L_is_called : FnScope N_L_is_called ["_law_it"] (defScope s_L_is_called) := ⟨rfl, rfl, rfl, by decide +kernel, rfl, by decide +kernel, by decide +kernel⟩
def m_L_is_called : MS :=
  mSeq (mIfS (mOrB (mNotB (mTruth (mCB .frz gIsi (mCons (mVar 0) (mCons (mK (.ty "str")) (mNil)))))) (mOrB (mTst (mBin .ref (gEqN true) (mSl .frz (mVar 0) (mON) (mOS (mC (.int 1)))) (mC (.str ("#" : Str))))) (mOrB (mTst (mBin .ref (gEqN true) (mSl .frz (mVar 0) (mOS (mNeg (mC (.int 1)))) (mON)) (mC (.str (";" : Str))))) (mOrB (mTst (mBin .ref gLt (mCB .frz gLen (mCons (mVar 0) (mNil))) (mC (.int 12)))) (mTst (mBin .ref (gEqN true) (mIx (mVar 0) (mC (.int 9))) (mC (.str ("-" : Str))))))))) (mRet (mC (.bool false))) (mSkip))
    (mRet (mAnd (mCall 1 f_L_is_mark [] (mCons (mSl .frz (mVar 0) (mOS (mC (.int 1))) (mOS (mC (.int 9)))) (mNil))) (mCall 1 f_L_is_word [] (mCons (mSl .frz (mVar 0) (mOS (mC (.int 10))) (mOS (mNeg (mC (.int 1))))) (mNil)))))
def f_L_is_called : List Mv → Sg → Res Mv := fnM N_L_is_called.length m_L_is_called
abbrev s_L_like_mark : Stmt := topS 28
abbrev N_L_like_mark : List Str := ["_law_deck_here", "_law_signs_here", "_law_k"]
theorem sc_L_like_mark : FnScope N_L_like_mark ["_law_deck_here"] (defScope s_L_like_mark) := ⟨rfl, rfl, rfl, by decide +kernel, rfl, by decide +kernel, by decide +kernel⟩
def e_L_like_mark_1 : ME :=
  mIx (mVar 1) (mCall 2 f_L_draw [] (mCons (mVar 0) (mCons (mC (.int 32)) (mNil))))
def m_L_like_mark : MS :=
  mSeq (mAsg (mC (.str ("0123456789abcdfghijklmnpqrsvwxyz" : Str))) (mgName 1))
    (mSeq (mIfS (mTst (mBin .ref (gEqN false) (mCall 2 f_L_draw [] (mCons (mVar 0) (mCons (mC (.int 4)) (mNil)))) (mC (.int 0)))) (mRet (mBin .frz gMul (mIx (mVar 1) (mCall 2 f_L_draw [] (mCons (mVar 0) (mCons (mC (.int 32)) (mNil))))) (mC (.int 8)))) (mSkip))
    (mRet (mBM .frz "str" gJoin (mC (.str ("" : Str))) (mCons (mLc .frz (mRange1 (mCons (mC (.int 8)) (mNil))) (mgName 2) mYes (e_L_like_mark_1) [2]) (mNil)))))
def f_L_like_mark : List Mv → Sg → Res Mv := fnM N_L_like_mark.length m_L_like_mark
abbrev s_L_otherwise : Stmt := topS 29
abbrev N_L_otherwise : List Str := ["_law_deck_here", "_law_written", "_law_way", "_law_at", "_law_sign", "_law_one", "_law_other", "_law_some"]
theorem sc_L_otherwise : FnScope N_L_otherwise ["_law_deck_here", "_law_written"] (defScope s_L_otherwise) := ⟨rfl, rfl, rfl, by decide +kernel, rfl, by decide +kernel, by decide +kernel⟩
def m_L_otherwise : MS :=
  mSeq (mPar 2 3 (mCons (mCall 2 f_L_draw [] (mCons (mVar 0) (mCons (mC (.int 10)) (mNil)))) (mCons (mCall 2 f_L_draw [] (mCons (mVar 0) (mCons (mBin .frz gAdd (mCB .frz gLen (mCons (mVar 1) (mNil))) (mC (.int 1))) (mNil)))) (mNil))))
    (mSeq (mAsg (mIx (mC (.str ("etouAZ0#-; \na~" : Str))) (mCall 2 f_L_draw [] (mCons (mVar 0) (mCons (mC (.int 14)) (mNil))))) (mgName 4))
    (mSeq (mPar 5 6 (mCons (mSl .frz (mVar 1) (mON) (mOS (mVar 3))) (mCons (mSl .frz (mVar 1) (mOS (mVar 3)) (mON)) (mNil))))
    (mSeq (mAsg (mDisp .frz false (mCons (mBin .frz gAdd (mVar 5) (mSl .frz (mVar 6) (mOS (mC (.int 1))) (mON))) (mCons (mBin .frz gAdd (mBin .frz gAdd (mVar 5) (mSl .frz (mVar 6) (mON) (mOS (mC (.int 1))))) (mVar 6)) (mCons (mBM .frz "str" gUpper (mVar 1) mNil) (mCons (mBin .frz gAdd (mBin .frz gAdd (mVar 5) (mVar 4)) (mSl .frz (mVar 6) (mOS (mC (.int 1))) (mON))) (mCons (mBin .frz gAdd (mBin .frz gAdd (mVar 5) (mVar 4)) (mVar 6)) (mNil))))))) (mgName 7))
    (mRet (mIx (mBin .frz gAdd (mVar 7) (mDisp .frz false (mCons (mBin .frz gAdd (mVar 1) (mC (.str ("\n" : Str)))) (mCons (mBin .frz gAdd (mBin .frz gAdd (mVar 5) (mRev .frz (mSl .frz (mVar 6) (mON) (mOS (mC (.int 2)))))) (mSl .frz (mVar 6) (mOS (mC (.int 2))) (mON))) (mCons (mBin .frz gAdd (mC (.str (" " : Str))) (mVar 1)) (mCons (mBin .frz gMul (mVar 1) (mC (.int 2))) (mCons (mRev .frz (mVar 1)) (mNil)))))))) (mVar 2))))))
def f_L_otherwise : List Mv → Sg → Res Mv := fnM N_L_otherwise.length m_L_otherwise
abbrev s_L_thing_text : Stmt := topS 32
abbrev N_L_thing_text : List Str := ["_law_deck_here", "_law_signs_here", "_law_first", "_law_long"]
theorem sc_L_thing_text : FnScope N_L_thing_text ["_law_deck_here"] (defScope s_L_thing_text) := ⟨rfl, rfl, rfl, by decide +kernel, rfl, by decide +kernel, by decide +kernel⟩
def m_L_thing_text : MS :=
  mSeq (mPar 1 2 (mCons (mCall0 f_L_signs) (mCons (mCall 2 f_L_draw [] (mCons (mVar 0) (mCons (mC (.int 94)) (mNil)))) (mNil))))
    (mSeq (mAsg (mIx (mDisp .frz false (mCons (mC (.int 399)) (mCons (mC (.int 400)) (mCons (mC (.int 401)) (mCons (mC (.int 402)) (mCons (mC (.int 800)) (mCons (mC (.int 6000)) (mCons (mCall 2 f_L_draw [] (mCons (mVar 0) (mCons (mC (.int 402)) (mNil)))) (mNil))))))))) (mCall 2 f_L_draw [] (mCons (mVar 0) (mCons (mC (.int 7)) (mNil))))) (mgName 3))
    (mRet (mSl .frz (mBin .frz gMul (mBin .frz gAdd (mSl .frz (mVar 1) (mOS (mVar 2)) (mON)) (mSl .frz (mVar 1) (mON) (mOS (mVar 2)))) (mC (.int 64))) (mON) (mOS (mVar 3)))))
def f_L_thing_text : List Mv → Sg → Res Mv := fnM N_L_thing_text.length m_L_thing_text
abbrev s_L_right : Stmt := topS 31
abbrev N_L_right : List Str := ["_law_it", "_law_kept", "_law_due", "_law_found"]
theorem sc_L_right : FnScope N_L_right ["_law_it"] (defScope s_L_right) := ⟨rfl, rfl, rfl, by decide +kernel, rfl, by decide +kernel, by decide +kernel⟩
def m_L_right : MS :=
  mSeq (mAsg (mCB .frz gRepr (mCons (mVar 0) (mNil))) (mgName 1))
    (mSeq (mAsg (mDisp .frz false (mCons (mAnd (mCB .frz gIsi (mCons (mVar 0) (mCons (mK (.ty "str")) (mNil)))) (mBin .ref gLt (mCB .frz gLen (mCons (mVar 0) (mNil))) (mC (.int 401)))) (mCons (mCall 1 f_L_is_word [] (mCons (mVar 0) (mNil))) (mCons (mCall 1 f_L_is_mark [] (mCons (mVar 0) (mNil))) (mCons (mCall 1 f_L_is_called [] (mCons (mVar 0) (mNil))) (mNil)))))) (mgName 2))
    (mSeq (mAsg (mDisp .frz false (mCons (mCall 1 f_is_thing [] (mCons (mVar 0) (mNil))) (mCons (mCall 1 f_is_label [] (mCons (mVar 0) (mNil))) (mCons (mCall 1 f_is_mark [] (mCons (mVar 0) (mNil))) (mCons (mCall 1 f_is_name [] (mCons (mVar 0) (mNil))) (mNil)))))) (mgName 3))
    (mSeq (mAsg (mBin .frz gAdd (mVar 3) (mDisp .frz false (mCons (mCallK 1 f_is_thing [.k 0] [] mNil (mCons (mVar 0) (mNil))) (mCons (mCallK 1 f_is_label [.k 0] [] mNil (mCons (mVar 0) (mNil))) (mCons (mCallK 1 f_is_mark [.k 0] [] mNil (mCons (mVar 0) (mNil))) (mCons (mCallK 1 f_is_name [.k 0] [] mNil (mCons (mVar 0) (mNil))) (mNil))))))) (mgName 3))
    (mRet (mAnd (mBin .ref (gEqN false) (mCB .frz gRepr (mCons (mVar 3) (mNil))) (mCB .frz gRepr (mCons (mBin .frz gAdd (mVar 2) (mVar 2)) (mNil)))) (mBin .ref (gEqN false) (mCB .frz gRepr (mCons (mVar 0) (mNil))) (mVar 1)))))))
def f_L_right : List Mv → Sg → Res Mv := fnM N_L_right.length m_L_right
abbrev s_law : Stmt := topS 33
abbrev N_law : List Str := ["_law_script", "_law_deck_here", "_law_turn", "_law_word", "_law_sixteen", "_law_like", "_law_own", "_law_some", "_law_it", "_law_one"]
theorem sc_law : FnScope N_law ["_law_script"] (defScope s_law) := ⟨rfl, rfl, rfl, by decide +kernel, rfl, by decide +kernel, by decide +kernel⟩
def e_law_1 : ME :=
  mCall 2 f_L_otherwise [] (mCons (mVar 1) (mCons (mVar 9) (mNil)))
def b_law_2 : MS :=
  mIfS (mNotB (mTruth (mCall 1 f_L_right [] (mCons (mVar 8) (mNil))))) (mRet (mC (.bool false))) (mSkip)
def b_law_1 : MS :=
  mSeq (mAsg (mCall 2 f_L_words [] (mCons (mVar 1) (mCons (mC (.int 2)) (mNil)))) (mgTup 2 (mgCons (mgName 3) (mgCons (mgName 4) (mgNil)))))
    (mSeq (mAsg (mCall 1 f_L_like_mark [] (mCons (mVar 1) (mNil))) (mgName 5))
    (mSeq (mAsg (mCall 2 f_name_with [] (mCons (mVar 5) (mCons (mVar 3) (mNil)))) (mgName 6))
    (mSeq (mIfS (mOrB (mTst (mBin .ref (gEqN true) (mVar 6) (mCall 2 f_L_called [] (mCons (mVar 5) (mCons (mVar 3) (mNil)))))) (mTst (mBin .ref (gEqN true) (mVar 6) (mCallK 2 f_name_with [.k 1, .k 0] [] mNil (mCons (mVar 3) (mCons (mVar 5) (mNil))))))) (mRet (mC (.bool false))) (mSkip))
    (mSeq (mIfS (mTst (mBin .ref (gEqN true) (mDisp .ref true (mCons (mCall 1 f_mark_in [] (mCons (mVar 6) (mNil))) (mCons (mCall 1 f_label_in [] (mCons (mVar 6) (mNil))) (mCons (mCallK 1 f_mark_in [.k 0] [] mNil (mCons (mVar 6) (mNil))) (mCons (mCallK 1 f_label_in [.k 0] [] mNil (mCons (mVar 6) (mNil))) (mNil)))))) (mBin .frz gMul (mDisp .ref true (mCons (mVar 5) (mCons (mVar 3) (mNil)))) (mC (.int 2))))) (mRet (mC (.bool false))) (mSkip))
    (mSeq (mAsg (mDisp .frz false (mCons (mVar 3) (mCons (mBin .frz gAdd (mVar 4) (mSl .frz (mC (.str ("abcdefgh" : Str))) (mON) (mOS (mBin .frz gSub (mC (.int 9)) (mCB .frz gLen (mCons (mVar 4) (mNil))))))) (mCons (mBin .frz gMul (mVar 3) (mC (.int 3))) (mCons (mVar 5) (mCons (mVar 6) (mCons (mCall 1 f_L_thing_text [] (mCons (mVar 1) (mNil))) (mNil)))))))) (mgName 7))
    (mFor (mIter (mBin .frz gAdd (mBin .frz gAdd (mBin .frz gAdd (mVar 7) (mLc .frz (mIter (mBin .frz gMul (mSl .frz (mVar 7) (mON) (mOS (mC (.int 5)))) (mC (.int 3)))) (mgName 9) mYes (e_law_1) [9])) (mCall 1 f_L_odd [] (mCons (mVar 6) (mNil)))) (mSl .frz (mVar 7) (mON) (mOS (mC (.int 1)))))) (mgName 8) b_law_2))))))
def m_law : MS :=
  mSeq (mAsg (mCall 1 f_L_deck [] (mCons (mVar 0) (mNil))) (mgName 1))
    (mSeq (mFor (mRange1 (mCons (mC (.int 10)) (mNil))) (mgName 2) b_law_1)
    (mRet (mC (.bool true))))
def f_law : List Mv → Sg → Res Mv := fnM N_law.length m_law
/-- what the top has left -/
structure Txt (K : PySem.W.Frag) (mg : Str → Option Value) where
  t_MOST : Tok
  c_MOST : mg "MOST" = some (.int 400 t_MOST)
  t_SIGNS : Tok
  c_SIGNS : mg "SIGNS" = some (.str k_SIGNS t_SIGNS)
  t_LETTERS : Tok
  c_LETTERS : mg "LETTERS" = some (.str k_LETTERS t_LETTERS)
  t_LONGEST_LABEL : Tok
  c_LONGEST_LABEL : mg "LONGEST_LABEL" = some (.int 8 t_LONGEST_LABEL)
  t_FIGURES : Tok
  c_FIGURES : mg "FIGURES" = some (.str k_FIGURES t_FIGURES)
  t_LONG : Tok
  c_LONG : mg "LONG" = some (.int 8 t_LONG)
  t_BEGIN : Tok
  c_BEGIN : mg "BEGIN" = some (.str k_BEGIN t_BEGIN)
  t_BETWEEN : Tok
  c_BETWEEN : mg "BETWEEN" = some (.str k_BETWEEN t_BETWEEN)
  t_END : Tok
  c_END : mg "END" = some (.str k_END t_END)
  t_AT : Tok
  c_AT : mg "AT" = some (.int 9 t_AT)
  b_all : mg "all" = none
  b_isinstance : mg "isinstance" = none
  b_len : mg "len" = none
  b_list : mg "list" = none
  b_range : mg "range" = none
  b_repr : mg "repr" = none
  b_str : mg "str" = none
  b_sum : mg "sum" = none
  b_tuple : mg "tuple" = none
  a_is_thing : Addr
  d_is_thing : FuncData
  F_is_thing : Fun K "is_thing" "is_thing" s_is_thing a_is_thing d_is_thing
  g_is_thing : mg "is_thing" = some (.ref a_is_thing)
  bd_is_thing : L2.Binds K d_is_thing ["thing"] []
  a_is_label : Addr
  d_is_label : FuncData
  F_is_label : Fun K "is_label" "is_label" s_is_label a_is_label d_is_label
  g_is_label : mg "is_label" = some (.ref a_is_label)
  bd_is_label : L2.Binds K d_is_label ["thing"] []
  a_is_mark : Addr
  d_is_mark : FuncData
  F_is_mark : Fun K "is_mark" "is_mark" s_is_mark a_is_mark d_is_mark
  g_is_mark : mg "is_mark" = some (.ref a_is_mark)
  bd_is_mark : L2.Binds K d_is_mark ["thing"] []
  a_name_with : Addr
  d_name_with : FuncData
  F_name_with : Fun K "name_with" "name_with" s_name_with a_name_with d_name_with
  g_name_with : mg "name_with" = some (.ref a_name_with)
  bd_name_with : L2.Binds K d_name_with ["mark", "label"] []
  a_mark_in : Addr
  d_mark_in : FuncData
  F_mark_in : Fun K "mark_in" "mark_in" s_mark_in a_mark_in d_mark_in
  g_mark_in : mg "mark_in" = some (.ref a_mark_in)
  bd_mark_in : L2.Binds K d_mark_in ["name"] []
  a_label_in : Addr
  d_label_in : FuncData
  F_label_in : Fun K "label_in" "label_in" s_label_in a_label_in d_label_in
  g_label_in : mg "label_in" = some (.ref a_label_in)
  bd_label_in : L2.Binds K d_label_in ["name"] []
  a_L_deck : Addr
  d_L_deck : FuncData
  F_L_deck : Fun K "_law_deck" "_law_deck" s_L_deck a_L_deck d_L_deck
  g_L_deck : mg "_law_deck" = some (.ref a_L_deck)
  bd_L_deck : L2.Binds K d_L_deck ["_law_script"] []
  a_L_draw : Addr
  d_L_draw : FuncData
  F_L_draw : Fun K "_law_draw" "_law_draw" s_L_draw a_L_draw d_L_draw
  g_L_draw : mg "_law_draw" = some (.ref a_L_draw)
  bd_L_draw : L2.Binds K d_L_draw ["_law_deck_here", "_law_many"] []
  a_L_signs : Addr
  d_L_signs : FuncData
  F_L_signs : Fun K "_law_signs" "_law_signs" s_L_signs a_L_signs d_L_signs
  g_L_signs : mg "_law_signs" = some (.ref a_L_signs)
  bd_L_signs : L2.Binds K d_L_signs [] []
  a_L_is_word : Addr
  d_L_is_word : FuncData
  F_L_is_word : Fun K "_law_is_word" "_law_is_word" s_L_is_word a_L_is_word d_L_is_word
  g_L_is_word : mg "_law_is_word" = some (.ref a_L_is_word)
  bd_L_is_word : L2.Binds K d_L_is_word ["_law_it"] []
  a_L_is_mark : Addr
  d_L_is_mark : FuncData
  F_L_is_mark : Fun K "_law_is_mark" "_law_is_mark" s_L_is_mark a_L_is_mark d_L_is_mark
  g_L_is_mark : mg "_law_is_mark" = some (.ref a_L_is_mark)
  bd_L_is_mark : L2.Binds K d_L_is_mark ["_law_it"] []
  a_L_called : Addr
  d_L_called : FuncData
  F_L_called : Fun K "_law_called" "_law_called" s_L_called a_L_called d_L_called
  g_L_called : mg "_law_called" = some (.ref a_L_called)
  bd_L_called : L2.Binds K d_L_called ["_law_like", "_law_word"] []
  a_L_odd : Addr
  d_L_odd : FuncData
  F_L_odd : Fun K "_law_odd" "_law_odd" s_L_odd a_L_odd d_L_odd
  g_L_odd : mg "_law_odd" = some (.ref a_L_odd)
  bd_L_odd : L2.Binds K d_L_odd ["_law_written"] []
  a_is_name : Addr
  d_is_name : FuncData
  F_is_name : Fun K "is_name" "is_name" s_is_name a_is_name d_is_name
  g_is_name : mg "is_name" = some (.ref a_is_name)
  bd_is_name : L2.Binds K d_is_name ["thing"] []
  a_L_words : Addr
  d_L_words : FuncData
  F_L_words : Fun K "_law_words" "_law_words" s_L_words a_L_words d_L_words
  g_L_words : mg "_law_words" = some (.ref a_L_words)
  bd_L_words : L2.Binds K d_L_words ["_law_deck_here", "_law_many"] []
  a_L_is_called : Addr
  d_L_is_called : FuncData
  F_L_is_called : Fun K "_law_is_called" "_law_is_called" s_L_is_called a_L_is_called d_L_is_called
  g_L_is_called : mg "_law_is_called" = some (.ref a_L_is_called)
  bd_L_is_called : L2.Binds K d_L_is_called ["_law_it"] []
  a_L_like_mark : Addr
  d_L_like_mark : FuncData
  F_L_like_mark : Fun K "_law_like_mark" "_law_like_mark" s_L_like_mark a_L_like_mark d_L_like_mark
  g_L_like_mark : mg "_law_like_mark" = some (.ref a_L_like_mark)
  bd_L_like_mark : L2.Binds K d_L_like_mark ["_law_deck_here"] []
  a_L_otherwise : Addr
  d_L_otherwise : FuncData
  F_L_otherwise : Fun K "_law_otherwise" "_law_otherwise" s_L_otherwise a_L_otherwise d_L_otherwise
  g_L_otherwise : mg "_law_otherwise" = some (.ref a_L_otherwise)
  bd_L_otherwise : L2.Binds K d_L_otherwise ["_law_deck_here", "_law_written"] []
  a_L_thing_text : Addr
  d_L_thing_text : FuncData
  F_L_thing_text : Fun K "_law_thing_text" "_law_thing_text" s_L_thing_text a_L_thing_text d_L_thing_text
  g_L_thing_text : mg "_law_thing_text" = some (.ref a_L_thing_text)
  bd_L_thing_text : L2.Binds K d_L_thing_text ["_law_deck_here"] []
  a_L_right : Addr
  d_L_right : FuncData
  F_L_right : Fun K "_law_right" "_law_right" s_L_right a_L_right d_L_right
  g_L_right : mg "_law_right" = some (.ref a_L_right)
  bd_L_right : L2.Binds K d_L_right ["_law_it"] []
  a_law : Addr
  d_law : FuncData
  F_law : Fun K "law" "law" s_law a_law d_law
  g_law : mg "law" = some (.ref a_law)
  bd_law : L2.Binds K d_law ["_law_script"] []
  k_is_label_thing : ∀ (s : Shared) (ws r : List Value), K.In s.heap → ws.length = 1 → laid [] ws [] [.k 0] = some r → BindsTo s d_is_label ⟨[], ((["thing"] : List Str)).zip ws⟩ (((["thing"] : List Str)).zip r)
  k_is_mark_thing : ∀ (s : Shared) (ws r : List Value), K.In s.heap → ws.length = 1 → laid [] ws [] [.k 0] = some r → BindsTo s d_is_mark ⟨[], ((["thing"] : List Str)).zip ws⟩ (((["thing"] : List Str)).zip r)
  k_is_name_thing : ∀ (s : Shared) (ws r : List Value), K.In s.heap → ws.length = 1 → laid [] ws [] [.k 0] = some r → BindsTo s d_is_name ⟨[], ((["thing"] : List Str)).zip ws⟩ (((["thing"] : List Str)).zip r)
  k_is_thing_thing : ∀ (s : Shared) (ws r : List Value), K.In s.heap → ws.length = 1 → laid [] ws [] [.k 0] = some r → BindsTo s d_is_thing ⟨[], ((["thing"] : List Str)).zip ws⟩ (((["thing"] : List Str)).zip r)
  k_label_in_name : ∀ (s : Shared) (ws r : List Value), K.In s.heap → ws.length = 1 → laid [] ws [] [.k 0] = some r → BindsTo s d_label_in ⟨[], ((["name"] : List Str)).zip ws⟩ (((["name"] : List Str)).zip r)
  k_mark_in_name : ∀ (s : Shared) (ws r : List Value), K.In s.heap → ws.length = 1 → laid [] ws [] [.k 0] = some r → BindsTo s d_mark_in ⟨[], ((["name"] : List Str)).zip ws⟩ (((["name"] : List Str)).zip r)
  k_name_with_label_mark : ∀ (s : Shared) (ws r : List Value), K.In s.heap → ws.length = 2 → laid [] ws [] [.k 1, .k 0] = some r → BindsTo s d_name_with ⟨[], ((["label", "mark"] : List Str)).zip ws⟩ (((["mark", "label"] : List Str)).zip r)
section
variable {P : Program} {w : World} {K : PySem.W.Frag} {mg : Str → Option Value} {base : Heap}
theorem ok_is_thing (T : Txt K mg) : FnM P w K mg base 1 T.a_is_thing T.d_is_thing ["thing"] f_is_thing := by
  show FnM P w K mg base 1 T.a_is_thing T.d_is_thing ["thing"] (fnM N_is_thing.length m_is_thing)
  refine fn_m (m := m_is_thing) T.F_is_thing sc_is_thing fun cdv A outer s H E hr gd tk pa => ?_
  exact pmb_one (pms_ret (pm_and (pm_callB .frz c_isi (by rfl) T.b_isinstance (by decide +kernel) (pl_cons (pm_var 0) (pl_cons (pm_ty (by rfl) T.b_str (by decide +kernel)) (pl_nil)))) (pm_and (pm_cmp o_le (nomark _) (pm_callB .frz c_len (by rfl) T.b_len PySem.boot_len (pl_cons (pm_var 0) (pl_nil))) (pm_globI (by rfl) T.c_MOST)) (pm_one (pm_callB .frz (c_all rfl) (by rfl) T.b_all (by decide +kernel) (pl_cons (pm_lc (own := [("sign", 1)]) .frz rfl sc_is_thing.nd (pim_seq (pm_var 0)) (blkOk_by (own := [("sign", 1)]) (N := N_is_thing) (sc := defScope s_is_thing) (by decide +kernel)) (fun _ _ _ _ _ => pmg_name (i := 1) sc_is_thing.nd rfl (by first | exact Or.inl rfl | exact Or.inr rfl)) (fun _ _ _ _ _ => ptm_nil) (fun _ _ _ _ _ => show PM _ _ _ e_is_thing_1 from pm_cmp (o_in (units65 hr)) (by first | rfl | exact nomark _) (pm_var 1) (pm_globS (by rfl) T.c_SIGNS)) (by decide)) (pl_nil)))))))
theorem ok_is_label (T : Txt K mg) : FnM P w K mg base 1 T.a_is_label T.d_is_label ["thing"] f_is_label := by
  show FnM P w K mg base 1 T.a_is_label T.d_is_label ["thing"] (fnM N_is_label.length m_is_label)
  refine fn_m (m := m_is_label) T.F_is_label sc_is_label fun cdv A outer s H E hr gd tk pa => ?_
  exact pmb_one (pms_ret (pm_and (pm_callB .frz c_isi (by rfl) T.b_isinstance (by decide +kernel) (pl_cons (pm_var 0) (pl_cons (pm_ty (by rfl) T.b_str (by decide +kernel)) (pl_nil)))) (pm_and (pm_chain o_le o_le (pm_int) (pm_callB .frz c_len (by rfl) T.b_len PySem.boot_len (pl_cons (pm_var 0) (pl_nil))) (pm_globI (by rfl) T.c_LONGEST_LABEL)) (pm_one (pm_callB .frz (c_all rfl) (by rfl) T.b_all (by decide +kernel) (pl_cons (pm_lc (own := [("sign", 1)]) .frz rfl sc_is_label.nd (pim_seq (pm_var 0)) (blkOk_by (own := [("sign", 1)]) (N := N_is_label) (sc := defScope s_is_label) (by decide +kernel)) (fun _ _ _ _ _ => pmg_name (i := 1) sc_is_label.nd rfl (by first | exact Or.inl rfl | exact Or.inr rfl)) (fun _ _ _ _ _ => ptm_nil) (fun _ _ _ _ _ => show PM _ _ _ e_is_label_1 from pm_cmp (o_in (units65 hr)) (by first | rfl | exact nomark _) (pm_var 1) (pm_globS (by rfl) T.c_LETTERS)) (by decide)) (pl_nil)))))))
theorem ok_is_mark (T : Txt K mg) : FnM P w K mg base 1 T.a_is_mark T.d_is_mark ["thing"] f_is_mark := by
  show FnM P w K mg base 1 T.a_is_mark T.d_is_mark ["thing"] (fnM N_is_mark.length m_is_mark)
  refine fn_m (m := m_is_mark) T.F_is_mark sc_is_mark fun cdv A outer s H E hr gd tk pa => ?_
  exact pmb_one (pms_ret (pm_and (pm_callB .frz c_isi (by rfl) T.b_isinstance (by decide +kernel) (pl_cons (pm_var 0) (pl_cons (pm_ty (by rfl) T.b_str (by decide +kernel)) (pl_nil)))) (pm_and (pm_cmp (o_eq hr.units) (nomark _) (pm_callB .frz c_len (by rfl) T.b_len PySem.boot_len (pl_cons (pm_var 0) (pl_nil))) (pm_globI (by rfl) T.c_LONG)) (pm_one (pm_callB .frz (c_all rfl) (by rfl) T.b_all (by decide +kernel) (pl_cons (pm_lc (own := [("sign", 1)]) .frz rfl sc_is_mark.nd (pim_seq (pm_var 0)) (blkOk_by (own := [("sign", 1)]) (N := N_is_mark) (sc := defScope s_is_mark) (by decide +kernel)) (fun _ _ _ _ _ => pmg_name (i := 1) sc_is_mark.nd rfl (by first | exact Or.inl rfl | exact Or.inr rfl)) (fun _ _ _ _ _ => ptm_nil) (fun _ _ _ _ _ => show PM _ _ _ e_is_mark_1 from pm_cmp (o_in (units65 hr)) (by first | rfl | exact nomark _) (pm_var 1) (pm_globS (by rfl) T.c_FIGURES)) (by decide)) (pl_nil)))))))
theorem ok_name_with (T : Txt K mg) : FnM P w K mg base 1 T.a_name_with T.d_name_with ["mark", "label"] f_name_with := by
  show FnM P w K mg base 1 T.a_name_with T.d_name_with ["mark", "label"] (fnM N_name_with.length m_name_with)
  refine fn_m (m := m_name_with) T.F_name_with sc_name_with fun cdv A outer s H E hr gd tk pa => ?_
  exact pmb_one (pms_ret (pm_joined (pj_consM (pm_fmt (pm_globS (by rfl) T.c_BEGIN)) (pj_consM (pm_fmt (pm_var 0)) (pj_consM (pm_fmt (pm_globS (by rfl) T.c_BETWEEN)) (pj_consM (pm_fmt (pm_var 1)) (pj_consM (pm_fmt (pm_globS (by rfl) T.c_END)) (pj_nilM))))))))
theorem ok_mark_in (T : Txt K mg) : FnM P w K mg base 1 T.a_mark_in T.d_mark_in ["name"] f_mark_in := by
  show FnM P w K mg base 1 T.a_mark_in T.d_mark_in ["name"] (fnM N_mark_in.length m_mark_in)
  refine fn_m (m := m_mark_in) T.F_mark_in sc_mark_in fun cdv A outer s H E hr gd tk pa => ?_
  exact pmb_one (pms_ret (pm_sl .frz (pm_var 0) (pmo_some (pm_int)) (pmo_some (pm_globI (by rfl) T.c_AT))))
theorem ok_label_in (T : Txt K mg) : FnM P w K mg base 1 T.a_label_in T.d_label_in ["name"] f_label_in := by
  show FnM P w K mg base 1 T.a_label_in T.d_label_in ["name"] (fnM N_label_in.length m_label_in)
  refine fn_m (m := m_label_in) T.F_label_in sc_label_in fun cdv A outer s H E hr gd tk pa => ?_
  exact pmb_one (pms_ret (pm_sl .frz (pm_var 0) (pmo_some (pm_bin .frz o_add (pm_globI (by rfl) T.c_AT) (pm_int))) (pmo_some (pm_neg (pm_int)))))
theorem ok_L_deck (T : Txt K mg) : FnM P w K mg base 1 T.a_L_deck T.d_L_deck ["_law_script"] f_L_deck := by
  show FnM P w K mg base 1 T.a_L_deck T.d_L_deck ["_law_script"] (fnM N_L_deck.length m_L_deck)
  refine fn_m (m := m_L_deck) T.F_L_deck sc_L_deck fun cdv A outer s H E hr gd tk pa => ?_
  exact pmb_cons (pms_set (i := 1) sc_L_deck.nd rfl (by first | exact Or.inl rfl | exact Or.inr rfl) (pm_callTy .frz (c_list rfl) (by rfl) T.b_list (by decide +kernel) (pl_cons (pm_sl .frz (pm_var 0) (pmo_none) (pmo_some (pm_int))) (pl_nil))))
    (pmb_one (pms_ret (pm_lst .ref (pl_cons (pm_rev .ref (pm_var 1)) (pl_cons (pm_bin .frz o_add (pm_callB .frz (c_sum rfl) (by rfl) T.b_sum (by decide +kernel) (pl_cons (pm_lc (own := [("_law_cell", 2)]) .frz rfl sc_L_deck.nd (pim_seq (pm_var 1)) (blkOk_by (own := [("_law_cell", 2)]) (N := N_L_deck) (sc := defScope s_L_deck) (by decide +kernel)) (fun _ _ _ _ _ => pmg_name (i := 2) sc_L_deck.nd rfl (by first | exact Or.inl rfl | exact Or.inr rfl)) (fun _ _ _ _ _ => ptm_nil) (fun _ _ _ _ _ => show PM _ _ _ e_L_deck_1 from pm_bin .frz o_mod (pm_var 2) (pm_int)) (by decide)) (pl_nil))) (pm_bin .frz o_mul (pm_int) (pm_callB .frz c_len (by rfl) T.b_len PySem.boot_len (pl_cons (pm_var 1) (pl_nil))))) (pl_cons (pm_int) (pl_nil)))))))
theorem ok_L_draw (T : Txt K mg) : FnM P w K mg base 1 T.a_L_draw T.d_L_draw ["_law_deck_here", "_law_many"] f_L_draw := by
  show FnM P w K mg base 1 T.a_L_draw T.d_L_draw ["_law_deck_here", "_law_many"] (fnM N_L_draw.length m_L_draw)
  refine fn_m (m := m_L_draw) T.F_L_draw sc_L_draw fun cdv A outer s H E hr gd tk pa => ?_
  exact pmb_cons (pms_setIx (pm_bin .frz o_add (pm_ix (pm_var 0) (pm_int)) (pm_int)) (pm_var 0) (pm_int))
    (pmb_cons (pms_set (i := 2) sc_L_draw.nd rfl (by first | exact Or.inl rfl | exact Or.inr rfl) (pm_ix (pm_var 0) (pm_int)))
    (pmb_cons (pms_if (pb_cmp (o_ne hr.units) (nomark _) (pm_ix (pm_var 0) (pm_int)) (pm_lst .frz (pl_nil))) (pmb_cons (pms_set (i := 2) sc_L_draw.nd rfl (by first | exact Or.inl rfl | exact Or.inr rfl) (pm_bu0 PySem.F.plainAttrs_list PySem.F.slot_list_pop PySem.F.type_list_pop u_pop (pm_ix (pm_var 0) (pm_int))))
    (pmb_one (pms_if (pb_cmp o_ge (nomark _) (pm_var 2) (pm_bin .frz o_pow (pm_int) (pm_int))) (pmb_cons (pms_expr (pm_bu PySem.F.plainAttrs_list PySem.F.slot_list_append PySem.F.type_list_append u_append (pm_ix (pm_var 0) (pm_int)) (pl_cons (pm_bin .frz o_fdiv (pm_var 2) (pm_var 1)) (pl_nil))))
    (pmb_one (pms_ret (pm_bin .frz o_mod (pm_var 2) (pm_var 1))))) (pmb_nil)))) (pmb_nil))
    (pmb_cons (pms_set (i := 3) sc_L_draw.nd rfl (by first | exact Or.inl rfl | exact Or.inr rfl) (pm_bin .frz o_mod (pm_bin .frz o_mul (pm_bin .frz o_add (pm_bin .frz o_add (pm_bin .frz o_mod (pm_var 2) (pm_int)) (pm_bin .frz o_mul (pm_int) (pm_ix (pm_var 0) (pm_int)))) (pm_int)) (pm_int)) (pm_int)))
    (pmb_cons (pms_set (i := 3) sc_L_draw.nd rfl (by first | exact Or.inl rfl | exact Or.inr rfl) (pm_bin .frz o_mod (pm_bin .frz o_add (pm_bin .frz o_add (pm_bin .frz o_mul (pm_var 3) (pm_var 3)) (pm_bin .frz o_mul (pm_int) (pm_ix (pm_var 0) (pm_int)))) (pm_int)) (pm_int)))
    (pmb_one (pms_ret (pm_bin .frz o_mod (pm_bin .frz o_fdiv (pm_bin .frz o_mod (pm_bin .frz o_add (pm_bin .frz o_mul (pm_var 3) (pm_var 3)) (pm_bin .frz o_mul (pm_int) (pm_var 3))) (pm_int)) (pm_int)) (pm_var 1))))))))
theorem ok_L_signs (T : Txt K mg) : FnM P w K mg base 1 T.a_L_signs T.d_L_signs [] f_L_signs := by
  show FnM P w K mg base 1 T.a_L_signs T.d_L_signs [] (fnM N_L_signs.length m_L_signs)
  refine fn_m (m := m_L_signs) T.F_L_signs sc_L_signs fun cdv A outer s H E hr gd tk pa => ?_
  exact pmb_cons (pms_set (i := 0) sc_L_signs.nd rfl (by first | exact Or.inl rfl | exact Or.inr rfl) (pm_str))
    (pmb_one (pms_ret (pm_bin .frz o_add (pm_var 0) (pm_str))))
theorem ok_L_is_word (T : Txt K mg) : FnM P w K mg base 1 T.a_L_is_word T.d_L_is_word ["_law_it"] f_L_is_word := by
  show FnM P w K mg base 1 T.a_L_is_word T.d_L_is_word ["_law_it"] (fnM N_L_is_word.length m_L_is_word)
  refine fn_m (m := m_L_is_word) T.F_L_is_word sc_L_is_word fun cdv A outer s H E hr gd tk pa => ?_
  exact pmb_cons (pms_if (pwb (pw_orM (pb_not (pb_of (pm_callB .frz c_isi (by rfl) T.b_isinstance (by decide +kernel) (pl_cons (pm_var 0) (pl_cons (pm_ty (by rfl) T.b_str (by decide +kernel)) (pl_nil)))))) (pw_orM1 (pb_not (pb_chain o_le o_le (pm_int) (pm_callB .frz c_len (by rfl) T.b_len PySem.boot_len (pl_cons (pm_var 0) (pl_nil))) (pm_int)))))) (pmb_one (pms_ret (pm_bl))) (pmb_nil))
    (pmb_one (pms_ret (pm_cmp (o_eq hr.units) (nomark _) (pm_lc (own := [("_law_sign", 1)]) .frz rfl sc_L_is_word.nd (pim_seq (pm_var 0)) (blkOk_by (own := [("_law_sign", 1)]) (N := N_L_is_word) (sc := defScope s_L_is_word) (by decide +kernel)) (fun _ _ _ _ _ => pmg_name (i := 1) sc_L_is_word.nd rfl (by first | exact Or.inl rfl | exact Or.inr rfl)) (fun _ _ _ _ _ => ptm_one (m := t_L_is_word_1) (pb_cmp (o_notIn (units65 hr)) (by first | rfl | exact nomark _) (pm_var 1) (pm_str))) (fun _ _ _ _ _ => pm_var 1) (by decide)) (pm_lst .frz (pl_nil)))))
theorem ok_L_is_mark (T : Txt K mg) : FnM P w K mg base 1 T.a_L_is_mark T.d_L_is_mark ["_law_it"] f_L_is_mark := by
  show FnM P w K mg base 1 T.a_L_is_mark T.d_L_is_mark ["_law_it"] (fnM N_L_is_mark.length m_L_is_mark)
  refine fn_m (m := m_L_is_mark) T.F_L_is_mark sc_L_is_mark fun cdv A outer s H E hr gd tk pa => ?_
  exact pmb_cons (pms_if (pwb (pw_orM (pb_not (pb_of (pm_callB .frz c_isi (by rfl) T.b_isinstance (by decide +kernel) (pl_cons (pm_var 0) (pl_cons (pm_ty (by rfl) T.b_str (by decide +kernel)) (pl_nil)))))) (pw_orM1 (pb_cmp (o_ne hr.units) (nomark _) (pm_callB .frz c_len (by rfl) T.b_len PySem.boot_len (pl_cons (pm_var 0) (pl_nil))) (pm_int))))) (pmb_one (pms_ret (pm_bl))) (pmb_nil))
    (pmb_one (pms_ret (pm_cmp (o_eq hr.units) (nomark _) (pm_lc (own := [("_law_sign", 1)]) .frz rfl sc_L_is_mark.nd (pim_seq (pm_var 0)) (blkOk_by (own := [("_law_sign", 1)]) (N := N_L_is_mark) (sc := defScope s_L_is_mark) (by decide +kernel)) (fun _ _ _ _ _ => pmg_name (i := 1) sc_L_is_mark.nd rfl (by first | exact Or.inl rfl | exact Or.inr rfl)) (fun _ _ _ _ _ => ptm_one (m := t_L_is_mark_1) (pb_cmp (o_notIn (units65 hr)) (by first | rfl | exact nomark _) (pm_var 1) (pm_str))) (fun _ _ _ _ _ => pm_var 1) (by decide)) (pm_lst .frz (pl_nil)))))
theorem ok_L_called (T : Txt K mg) : FnM P w K mg base 1 T.a_L_called T.d_L_called ["_law_like", "_law_word"] f_L_called := by
  show FnM P w K mg base 1 T.a_L_called T.d_L_called ["_law_like", "_law_word"] (fnM N_L_called.length m_L_called)
  refine fn_m (m := m_L_called) T.F_L_called sc_L_called fun cdv A outer s H E hr gd tk pa => ?_
  exact pmb_one (pms_ret (pm_bin .frz o_add (pm_bin .frz o_add (pm_bin .frz o_add (pm_bin .frz o_add (pm_str) (pm_var 0)) (pm_str)) (pm_var 1)) (pm_str)))
theorem ok_L_odd (T : Txt K mg) : FnM P w K mg base 1 T.a_L_odd T.d_L_odd ["_law_written"] f_L_odd := by
  show FnM P w K mg base 1 T.a_L_odd T.d_L_odd ["_law_written"] (fnM N_L_odd.length m_L_odd)
  refine fn_m (m := m_L_odd) T.F_L_odd sc_L_odd fun cdv A outer s H E hr gd tk pa => ?_
  exact pmb_cons (pms_set (i := 1) sc_L_odd.nd rfl (by first | exact Or.inl rfl | exact Or.inr rfl) (pm_lst .frz (pl_cons (pm_non) (pl_cons (pm_bl) (pl_cons (pm_bl) (pl_cons (pm_int) (pl_cons (pm_int) (pl_cons (pm_neg (pm_int)) (pl_cons (pm_bin .frz o_pow (pm_int) (pm_int)) (pl_cons (pm_tup (pl_nil)) (pl_cons (pm_lst .frz (pl_nil)) (pl_cons (pm_dct0) (pl_cons (pm_tup (pl_cons (pm_var 0) (pl_nil))) (pl_cons (pm_lst .frz (pl_cons (pm_var 0) (pl_nil))) (pl_cons (pm_dct (pmps_cons (pm_var 0) (pm_var 0) (pmps_nil)) (by rfl) (by rfl) (fun h => nomatch h) (by decide)) (pl_cons (pm_callTy .frz (c_list rfl) (by rfl) T.b_list (by decide +kernel) (pl_cons (pm_var 0) (pl_nil))) (pl_nil)))))))))))))))))
    (pmb_one (pms_ret (pm_bin .frz o_add (pm_var 1) (pm_lst .frz (pl_cons (pm_callTy .frz (c_tuple rfl) (by rfl) T.b_tuple (by decide +kernel) (pl_cons (pm_var 0) (pl_nil))) (pl_cons (pm_tup (pl_cons (pm_tup (pl_cons (pm_var 0) (pl_cons (pm_var 0) (pl_nil)))) (pl_nil))) (pl_cons (pm_str) (pl_cons (pm_str) (pl_cons (pm_str) (pl_cons (pm_str) (pl_nil)))))))))))
theorem ok_is_name (T : Txt K mg) : FnM P w K mg base 2 T.a_is_name T.d_is_name ["thing"] f_is_name := by
  show FnM P w K mg base 2 T.a_is_name T.d_is_name ["thing"] (fnM N_is_name.length m_is_name)
  refine fn_m (m := m_is_name) T.F_is_name sc_is_name fun cdv A outer s H E hr gd tk pa => ?_
  exact pmb_cons (pms_if (pwb (pw_orM (pb_not (pb_of (pm_callB .frz c_isi (by rfl) T.b_isinstance (by decide +kernel) (pl_cons (pm_var 0) (pl_cons (pm_ty (by rfl) T.b_str (by decide +kernel)) (pl_nil)))))) (pw_orM (pb_cmp o_le (nomark _) (pm_callB .frz c_len (by rfl) T.b_len PySem.boot_len (pl_cons (pm_var 0) (pl_nil))) (pm_bin .frz o_add (pm_globI (by rfl) T.c_AT) (pm_int))) (pw_orM1 (pb_cmp (o_ne hr.units) (nomark _) (pm_ix (pm_var 0) (pm_globI (by rfl) T.c_AT)) (pm_globS (by rfl) T.c_BETWEEN)))))) (pmb_one (pms_ret (pm_bl))) (pmb_nil))
    (pmb_cons (pms_if (pwb (pw_orM (pb_not (pb_of (pm_bm .frz PySem.F.plainAttrs_str PySem.F.slot_str_startswith PySem.F.type_str_startswith m_starts (pm_var 0) (pl_cons (pm_globS (by rfl) T.c_BEGIN) (pl_nil))))) (pw_orM1 (pb_not (pb_of (pm_bm .frz PySem.F.plainAttrs_str PySem.F.slot_str_endswith PySem.F.type_str_endswith m_ends (pm_var 0) (pl_cons (pm_globS (by rfl) T.c_END) (pl_nil)))))))) (pmb_one (pms_ret (pm_bl))) (pmb_nil))
    (pmb_one (pms_ret (pm_and (pm_call (ok_is_mark T) (hr.mono (by decide)) gd tk (by rfl) T.g_is_mark T.F_is_mark.kp T.bd_is_mark .nil (fun _ _ => .nil) (pl_cons (pm_sl .frz (pm_var 0) (pmo_some (pm_int)) (pmo_some (pm_globI (by rfl) T.c_AT))) (pl_nil))) (pm_one (pm_call (ok_is_label T) (hr.mono (by decide)) gd tk (by rfl) T.g_is_label T.F_is_label.kp T.bd_is_label .nil (fun _ _ => .nil) (pl_cons (pm_sl .frz (pm_var 0) (pmo_some (pm_bin .frz o_add (pm_globI (by rfl) T.c_AT) (pm_int))) (pmo_some (pm_neg (pm_int)))) (pl_nil))))))))
theorem ok_L_words (T : Txt K mg) : FnM P w K mg base 2 T.a_L_words T.d_L_words ["_law_deck_here", "_law_many"] f_L_words := by
  show FnM P w K mg base 2 T.a_L_words T.d_L_words ["_law_deck_here", "_law_many"] (fnM N_L_words.length m_L_words)
  refine fn_m (m := m_L_words) T.F_L_words sc_L_words fun cdv A outer s H E hr gd tk pa => ?_
  exact pmb_cons (pms_set (i := 2) sc_L_words.nd rfl (by first | exact Or.inl rfl | exact Or.inr rfl) (pm_str))
    (pmb_cons ((let hpl := pl_cons (pm_call (ok_L_draw T) (hr.mono (by decide)) gd tk (by rfl) T.g_L_draw T.F_L_draw.kp T.bd_L_draw .nil (fun _ _ => .nil) (pl_cons (pm_var 0) (pl_cons (pm_int) (pl_nil)))) (pl_cons (pm_call (ok_L_draw T) (hr.mono (by decide)) gd tk (by rfl) T.g_L_draw T.F_L_draw.kp T.bd_L_draw .nil (fun _ _ => .nil) (pl_cons (pm_var 0) (pl_cons (pm_int) (pl_nil)))) (pl_nil)); pms_par (i := 3) (j := 4) rfl sc_L_words.nd rfl rfl (by decide) rfl rfl hpl (ps_par (by rfl) sc_L_words.nd rfl rfl (by decide) rfl rfl hpl (by rfl))))
    (pmb_cons (pms_set (i := 5) sc_L_words.nd rfl (by first | exact Or.inl rfl | exact Or.inr rfl) (pm_bm .frz PySem.F.plainAttrs_str PySem.F.slot_str_join PySem.F.type_str_join m_join (pm_str) (pl_cons (pm_lc (own := [("_law_k", 8)]) .frz rfl sc_L_words.nd (pim_range1 (by rfl) T.b_range (pl_cons (pm_int) (pl_nil))) (blkOk_by (own := [("_law_k", 8)]) (N := N_L_words) (sc := defScope s_L_words) (by decide +kernel)) (fun _ _ _ _ _ => pmg_name (i := 8) sc_L_words.nd rfl (by first | exact Or.inl rfl | exact Or.inr rfl)) (fun _ _ _ _ _ => ptm_nil) (fun _ _ _ _ _ => show PM _ _ _ e_L_words_1 from pm_ix (pm_var 2) (pm_call (ok_L_draw T) (hr.mono (by decide)) gd takes0 (by rfl) T.g_L_draw T.F_L_draw.kp T.bd_L_draw .nil (fun _ _ => .nil) (pl_cons (pm_var 0) (pl_cons (pm_int) (pl_nil))))) (by decide)) (pl_nil))))
    (pmb_cons (pms_set (i := 6) sc_L_words.nd rfl (by first | exact Or.inl rfl | exact Or.inr rfl) (pm_call (ok_L_draw T) (hr.mono (by decide)) gd tk (by rfl) T.g_L_draw T.F_L_draw.kp T.bd_L_draw .nil (fun _ _ => .nil) (pl_cons (pm_var 0) (pl_cons (pm_int) (pl_nil)))))
    (pmb_cons (pms_set (i := 7) sc_L_words.nd rfl (by first | exact Or.inl rfl | exact Or.inr rfl) (pm_lst .own (pl_nil)))
    (pmb_cons (pms_for (mb := b_L_words_1) pa rfl (pim_range1 (by rfl) T.b_range (pl_cons (pm_int) (pl_nil))) (pmg_name (i := 8) sc_L_words.nd rfl (by first | exact Or.inl rfl | exact Or.inr rfl)) (pmb_cons (pms_set (i := 9) sc_L_words.nd rfl (by first | exact Or.inl rfl | exact Or.inr rfl) (pm_ix (pm_var 2) (pm_bin .frz o_mod (pm_bin .frz o_add (pm_var 4) (pm_bin .frz o_mul (pm_int) (pm_var 8))) (pm_int))))
    (pmb_cons (pms_set (i := 10) sc_L_words.nd rfl (by first | exact Or.inl rfl | exact Or.inr rfl) (pm_ix (pm_lst .frz (pl_cons (pm_var 9) (pl_cons (pm_bin .frz o_add (pm_bin .frz o_add (pm_sl .frz (pm_var 5) (pmo_none) (pmo_some (pm_var 6))) (pm_var 9)) (pm_sl .frz (pm_var 5) (pmo_some (pm_var 6)) (pmo_none))) (pl_cons (pm_sl .frz (pm_bin .frz o_add (pm_var 5) (pm_var 9)) (pmo_none) (pmo_some (pm_bin .frz o_add (pm_bin .frz o_mod (pm_var 8) (pm_int)) (pm_int)))) (pl_nil))))) (pm_var 3)))
    (pmb_one (pms_if (pb_cmp (o_notIn (units65 hr)) (by first | rfl | exact nomark _) (pm_var 10) (pm_var 7)) (pmb_one (pms_expr (pm_bu PySem.F.plainAttrs_list PySem.F.slot_list_append PySem.F.type_list_append u_append (pm_var 7) (pl_cons (pm_var 10) (pl_nil))))) (pmb_nil))))))
    (pmb_cons (pms_for (mb := b_L_words_2) pa rfl (pim_range1 (by rfl) T.b_range (pl_cons (pm_int) (pl_nil))) (pmg_name (i := 8) sc_L_words.nd rfl (by first | exact Or.inl rfl | exact Or.inr rfl)) (pmb_cons (pms_set (i := 10) sc_L_words.nd rfl (by first | exact Or.inl rfl | exact Or.inr rfl) (pm_bin .frz o_add (pm_str) (pm_ix (pm_var 2) (pm_var 8))))
    (pmb_one (pms_if (pb_cmp (o_notIn (units65 hr)) (by first | rfl | exact nomark _) (pm_var 10) (pm_var 7)) (pmb_one (pms_expr (pm_bu PySem.F.plainAttrs_list PySem.F.slot_list_append PySem.F.type_list_append u_append (pm_var 7) (pl_cons (pm_var 10) (pl_nil))))) (pmb_nil)))))
    (pmb_cons (pms_set (i := 11) sc_L_words.nd rfl (by first | exact Or.inl rfl | exact Or.inr rfl) (pm_sl .own (pm_var 7) (pmo_none) (pmo_some (pm_bin .frz o_add (pm_var 1) (pm_int)))))
    (pmb_one (pms_ret (pm_lc (own := [("_law_k", 8)]) .frz rfl sc_L_words.nd (pim_range1 (by rfl) T.b_range (pl_cons (pm_var 1) (pl_nil))) (blkOk_by (own := [("_law_k", 8)]) (N := N_L_words) (sc := defScope s_L_words) (by decide +kernel)) (fun _ _ _ _ _ => pmg_name (i := 8) sc_L_words.nd rfl (by first | exact Or.inl rfl | exact Or.inr rfl)) (fun _ _ _ _ _ => ptm_nil) (fun _ _ _ _ _ => show PM _ _ _ e_L_words_2 from pm_bu PySem.F.plainAttrs_list PySem.F.slot_list_pop PySem.F.type_list_pop u_pop (pm_var 11) (pl_cons (pm_call (ok_L_draw T) (hr.mono (by decide)) gd takes0 (by rfl) T.g_L_draw T.F_L_draw.kp T.bd_L_draw .nil (fun _ _ => .nil) (pl_cons (pm_var 0) (pl_cons (pm_callB .frz c_len (by rfl) T.b_len PySem.boot_len (pl_cons (pm_var 11) (pl_nil))) (pl_nil)))) (pl_nil))) (by decide)))))))))))
theorem ok_L_is_called (T : Txt K mg) : FnM P w K mg base 2 T.a_L_is_called T.d_L_is_called ["_law_it"] f_L_is_called := by
  show FnM P w K mg base 2 T.a_L_is_called T.d_L_is_called ["_law_it"] (fnM N_L_is_called.length m_L_is_called)
  refine fn_m (m := m_L_is_called) T.F_L_is_called sc_L_is_called fun cdv A outer s H E hr gd tk pa => ?_
  exact pmb_cons (pms_if (pwb (pw_orM (pb_not (pb_of (pm_callB .frz c_isi (by rfl) T.b_isinstance (by decide +kernel) (pl_cons (pm_var 0) (pl_cons (pm_ty (by rfl) T.b_str (by decide +kernel)) (pl_nil)))))) (pw_orM (pb_cmp (o_ne hr.units) (nomark _) (pm_sl .frz (pm_var 0) (pmo_none) (pmo_some (pm_int))) (pm_str)) (pw_orM (pb_cmp (o_ne hr.units) (nomark _) (pm_sl .frz (pm_var 0) (pmo_some (pm_neg (pm_int))) (pmo_none)) (pm_str)) (pw_orM (pb_cmp o_lt (nomark _) (pm_callB .frz c_len (by rfl) T.b_len PySem.boot_len (pl_cons (pm_var 0) (pl_nil))) (pm_int)) (pw_orM1 (pb_cmp (o_ne hr.units) (nomark _) (pm_ix (pm_var 0) (pm_int)) (pm_str)))))))) (pmb_one (pms_ret (pm_bl))) (pmb_nil))
    (pmb_one (pms_ret (pm_and (pm_call (ok_L_is_mark T) (hr.mono (by decide)) gd tk (by rfl) T.g_L_is_mark T.F_L_is_mark.kp T.bd_L_is_mark .nil (fun _ _ => .nil) (pl_cons (pm_sl .frz (pm_var 0) (pmo_some (pm_int)) (pmo_some (pm_int))) (pl_nil))) (pm_one (pm_call (ok_L_is_word T) (hr.mono (by decide)) gd tk (by rfl) T.g_L_is_word T.F_L_is_word.kp T.bd_L_is_word .nil (fun _ _ => .nil) (pl_cons (pm_sl .frz (pm_var 0) (pmo_some (pm_int)) (pmo_some (pm_neg (pm_int)))) (pl_nil)))))))
theorem ok_L_like_mark (T : Txt K mg) : FnM P w K mg base 2 T.a_L_like_mark T.d_L_like_mark ["_law_deck_here"] f_L_like_mark := by
  show FnM P w K mg base 2 T.a_L_like_mark T.d_L_like_mark ["_law_deck_here"] (fnM N_L_like_mark.length m_L_like_mark)
  refine fn_m (m := m_L_like_mark) T.F_L_like_mark sc_L_like_mark fun cdv A outer s H E hr gd tk pa => ?_
  exact pmb_cons (pms_set (i := 1) sc_L_like_mark.nd rfl (by first | exact Or.inl rfl | exact Or.inr rfl) (pm_str))
    (pmb_cons (pms_if (pb_cmp (o_eq hr.units) (nomark _) (pm_call (ok_L_draw T) (hr.mono (by decide)) gd tk (by rfl) T.g_L_draw T.F_L_draw.kp T.bd_L_draw .nil (fun _ _ => .nil) (pl_cons (pm_var 0) (pl_cons (pm_int) (pl_nil)))) (pm_int)) (pmb_one (pms_ret (pm_bin .frz o_mul (pm_ix (pm_var 1) (pm_call (ok_L_draw T) (hr.mono (by decide)) gd tk (by rfl) T.g_L_draw T.F_L_draw.kp T.bd_L_draw .nil (fun _ _ => .nil) (pl_cons (pm_var 0) (pl_cons (pm_int) (pl_nil))))) (pm_int)))) (pmb_nil))
    (pmb_one (pms_ret (pm_bm .frz PySem.F.plainAttrs_str PySem.F.slot_str_join PySem.F.type_str_join m_join (pm_str) (pl_cons (pm_lc (own := [("_law_k", 2)]) .frz rfl sc_L_like_mark.nd (pim_range1 (by rfl) T.b_range (pl_cons (pm_int) (pl_nil))) (blkOk_by (own := [("_law_k", 2)]) (N := N_L_like_mark) (sc := defScope s_L_like_mark) (by decide +kernel)) (fun _ _ _ _ _ => pmg_name (i := 2) sc_L_like_mark.nd rfl (by first | exact Or.inl rfl | exact Or.inr rfl)) (fun _ _ _ _ _ => ptm_nil) (fun _ _ _ _ _ => show PM _ _ _ e_L_like_mark_1 from pm_ix (pm_var 1) (pm_call (ok_L_draw T) (hr.mono (by decide)) gd takes0 (by rfl) T.g_L_draw T.F_L_draw.kp T.bd_L_draw .nil (fun _ _ => .nil) (pl_cons (pm_var 0) (pl_cons (pm_int) (pl_nil))))) (by decide)) (pl_nil))))))
theorem ok_L_otherwise (T : Txt K mg) : FnM P w K mg base 2 T.a_L_otherwise T.d_L_otherwise ["_law_deck_here", "_law_written"] f_L_otherwise := by
  show FnM P w K mg base 2 T.a_L_otherwise T.d_L_otherwise ["_law_deck_here", "_law_written"] (fnM N_L_otherwise.length m_L_otherwise)
  refine fn_m (m := m_L_otherwise) T.F_L_otherwise sc_L_otherwise fun cdv A outer s H E hr gd tk pa => ?_
  exact pmb_cons ((let hpl := pl_cons (pm_call (ok_L_draw T) (hr.mono (by decide)) gd tk (by rfl) T.g_L_draw T.F_L_draw.kp T.bd_L_draw .nil (fun _ _ => .nil) (pl_cons (pm_var 0) (pl_cons (pm_int) (pl_nil)))) (pl_cons (pm_call (ok_L_draw T) (hr.mono (by decide)) gd tk (by rfl) T.g_L_draw T.F_L_draw.kp T.bd_L_draw .nil (fun _ _ => .nil) (pl_cons (pm_var 0) (pl_cons (pm_bin .frz o_add (pm_callB .frz c_len (by rfl) T.b_len PySem.boot_len (pl_cons (pm_var 1) (pl_nil))) (pm_int)) (pl_nil)))) (pl_nil)); pms_par (i := 2) (j := 3) rfl sc_L_otherwise.nd rfl rfl (by decide) rfl rfl hpl (ps_par (by rfl) sc_L_otherwise.nd rfl rfl (by decide) rfl rfl hpl (by rfl))))
    (pmb_cons (pms_set (i := 4) sc_L_otherwise.nd rfl (by first | exact Or.inl rfl | exact Or.inr rfl) (pm_ix (pm_str) (pm_call (ok_L_draw T) (hr.mono (by decide)) gd tk (by rfl) T.g_L_draw T.F_L_draw.kp T.bd_L_draw .nil (fun _ _ => .nil) (pl_cons (pm_var 0) (pl_cons (pm_int) (pl_nil))))))
    (pmb_cons ((let hpl := pl_cons (pm_sl .frz (pm_var 1) (pmo_none) (pmo_some (pm_var 3))) (pl_cons (pm_sl .frz (pm_var 1) (pmo_some (pm_var 3)) (pmo_none)) (pl_nil)); pms_par (i := 5) (j := 6) rfl sc_L_otherwise.nd rfl rfl (by decide) rfl rfl hpl (ps_par (by rfl) sc_L_otherwise.nd rfl rfl (by decide) rfl rfl hpl (by rfl))))
    (pmb_cons (pms_set (i := 7) sc_L_otherwise.nd rfl (by first | exact Or.inl rfl | exact Or.inr rfl) (pm_lst .frz (pl_cons (pm_bin .frz o_add (pm_var 5) (pm_sl .frz (pm_var 6) (pmo_some (pm_int)) (pmo_none))) (pl_cons (pm_bin .frz o_add (pm_bin .frz o_add (pm_var 5) (pm_sl .frz (pm_var 6) (pmo_none) (pmo_some (pm_int)))) (pm_var 6)) (pl_cons (pm_bm0 .frz PySem.F.plainAttrs_str PySem.F.slot_str_upper PySem.F.type_str_upper m_upper (pm_var 1)) (pl_cons (pm_bin .frz o_add (pm_bin .frz o_add (pm_var 5) (pm_var 4)) (pm_sl .frz (pm_var 6) (pmo_some (pm_int)) (pmo_none))) (pl_cons (pm_bin .frz o_add (pm_bin .frz o_add (pm_var 5) (pm_var 4)) (pm_var 6)) (pl_nil))))))))
    (pmb_one (pms_ret (pm_ix (pm_bin .frz o_add (pm_var 7) (pm_lst .frz (pl_cons (pm_bin .frz o_add (pm_var 1) (pm_str)) (pl_cons (pm_bin .frz o_add (pm_bin .frz o_add (pm_var 5) (pm_rev .frz (pm_sl .frz (pm_var 6) (pmo_none) (pmo_some (pm_int))))) (pm_sl .frz (pm_var 6) (pmo_some (pm_int)) (pmo_none))) (pl_cons (pm_bin .frz o_add (pm_str) (pm_var 1)) (pl_cons (pm_bin .frz o_mul (pm_var 1) (pm_int)) (pl_cons (pm_rev .frz (pm_var 1)) (pl_nil)))))))) (pm_var 2)))))))
theorem ok_L_thing_text (T : Txt K mg) : FnM P w K mg base 2 T.a_L_thing_text T.d_L_thing_text ["_law_deck_here"] f_L_thing_text := by
  show FnM P w K mg base 2 T.a_L_thing_text T.d_L_thing_text ["_law_deck_here"] (fnM N_L_thing_text.length m_L_thing_text)
  refine fn_m (m := m_L_thing_text) T.F_L_thing_text sc_L_thing_text fun cdv A outer s H E hr gd tk pa => ?_
  exact pmb_cons ((let hpl := pl_cons (pm_call0 (ok_L_signs T) (hr.mono (by decide)) gd tk (by rfl) T.g_L_signs T.F_L_signs.kp T.bd_L_signs .nil) (pl_cons (pm_call (ok_L_draw T) (hr.mono (by decide)) gd tk (by rfl) T.g_L_draw T.F_L_draw.kp T.bd_L_draw .nil (fun _ _ => .nil) (pl_cons (pm_var 0) (pl_cons (pm_int) (pl_nil)))) (pl_nil)); pms_par (i := 1) (j := 2) rfl sc_L_thing_text.nd rfl rfl (by decide) rfl rfl hpl (ps_par (by rfl) sc_L_thing_text.nd rfl rfl (by decide) rfl rfl hpl (by rfl))))
    (pmb_cons (pms_set (i := 3) sc_L_thing_text.nd rfl (by first | exact Or.inl rfl | exact Or.inr rfl) (pm_ix (pm_lst .frz (pl_cons (pm_int) (pl_cons (pm_int) (pl_cons (pm_int) (pl_cons (pm_int) (pl_cons (pm_int) (pl_cons (pm_int) (pl_cons (pm_call (ok_L_draw T) (hr.mono (by decide)) gd tk (by rfl) T.g_L_draw T.F_L_draw.kp T.bd_L_draw .nil (fun _ _ => .nil) (pl_cons (pm_var 0) (pl_cons (pm_int) (pl_nil)))) (pl_nil))))))))) (pm_call (ok_L_draw T) (hr.mono (by decide)) gd tk (by rfl) T.g_L_draw T.F_L_draw.kp T.bd_L_draw .nil (fun _ _ => .nil) (pl_cons (pm_var 0) (pl_cons (pm_int) (pl_nil))))))
    (pmb_one (pms_ret (pm_sl .frz (pm_bin .frz o_mul (pm_bin .frz o_add (pm_sl .frz (pm_var 1) (pmo_some (pm_var 2)) (pmo_none)) (pm_sl .frz (pm_var 1) (pmo_none) (pmo_some (pm_var 2)))) (pm_int)) (pmo_none) (pmo_some (pm_var 3))))))
theorem ok_L_right (T : Txt K mg) : FnM P w K mg base 3 T.a_L_right T.d_L_right ["_law_it"] f_L_right := by
  show FnM P w K mg base 3 T.a_L_right T.d_L_right ["_law_it"] (fnM N_L_right.length m_L_right)
  refine fn_m (m := m_L_right) T.F_L_right sc_L_right fun cdv A outer s H E hr gd tk pa => ?_
  exact pmb_cons (pms_set (i := 1) sc_L_right.nd rfl (by first | exact Or.inl rfl | exact Or.inr rfl) (pm_callB .frz (c_repr gd (units128 hr)) (by rfl) T.b_repr (by decide +kernel) (pl_cons (pm_var 0) (pl_nil))))
    (pmb_cons (pms_set (i := 2) sc_L_right.nd rfl (by first | exact Or.inl rfl | exact Or.inr rfl) (pm_lst .frz (pl_cons (pm_and (pm_callB .frz c_isi (by rfl) T.b_isinstance (by decide +kernel) (pl_cons (pm_var 0) (pl_cons (pm_ty (by rfl) T.b_str (by decide +kernel)) (pl_nil)))) (pm_one (pm_cmp o_lt (nomark _) (pm_callB .frz c_len (by rfl) T.b_len PySem.boot_len (pl_cons (pm_var 0) (pl_nil))) (pm_int)))) (pl_cons (pm_call (ok_L_is_word T) (hr.mono (by decide)) gd tk (by rfl) T.g_L_is_word T.F_L_is_word.kp T.bd_L_is_word .nil (fun _ _ => .nil) (pl_cons (pm_var 0) (pl_nil))) (pl_cons (pm_call (ok_L_is_mark T) (hr.mono (by decide)) gd tk (by rfl) T.g_L_is_mark T.F_L_is_mark.kp T.bd_L_is_mark .nil (fun _ _ => .nil) (pl_cons (pm_var 0) (pl_nil))) (pl_cons (pm_call (ok_L_is_called T) (hr.mono (by decide)) gd tk (by rfl) T.g_L_is_called T.F_L_is_called.kp T.bd_L_is_called .nil (fun _ _ => .nil) (pl_cons (pm_var 0) (pl_nil))) (pl_nil)))))))
    (pmb_cons (pms_set (i := 3) sc_L_right.nd rfl (by first | exact Or.inl rfl | exact Or.inr rfl) (pm_lst .frz (pl_cons (pm_call (ok_is_thing T) (hr.mono (by decide)) gd tk (by rfl) T.g_is_thing T.F_is_thing.kp T.bd_is_thing .nil (fun _ _ => .nil) (pl_cons (pm_var 0) (pl_nil))) (pl_cons (pm_call (ok_is_label T) (hr.mono (by decide)) gd tk (by rfl) T.g_is_label T.F_is_label.kp T.bd_is_label .nil (fun _ _ => .nil) (pl_cons (pm_var 0) (pl_nil))) (pl_cons (pm_call (ok_is_mark T) (hr.mono (by decide)) gd tk (by rfl) T.g_is_mark T.F_is_mark.kp T.bd_is_mark .nil (fun _ _ => .nil) (pl_cons (pm_var 0) (pl_nil))) (pl_cons (pm_call (ok_is_name T) (hr.mono (by decide)) gd tk (by rfl) T.g_is_name T.F_is_name.kp T.bd_is_name .nil (fun _ _ => .nil) (pl_cons (pm_var 0) (pl_nil))) (pl_nil)))))))
    (pmb_cons (pms_set (i := 3) sc_L_right.nd rfl (by first | exact Or.inl rfl | exact Or.inr rfl) (pm_bin .frz o_add (pm_var 3) (pm_lst .frz (pl_cons (pm_callK0 (ks := ["thing"]) (ok_is_thing T) (hr.mono (by decide)) gd tk (by rfl) T.g_is_thing T.F_is_thing.kp (T.k_is_thing_thing) .nil (fun _ _ => .nil) (fun _ _ _ _ h => len_of_cons (fun _ _ _ _ h => len_of_nil h) h) (plk_cons (pm_var 0) (plk_nil))) (pl_cons (pm_callK0 (ks := ["thing"]) (ok_is_label T) (hr.mono (by decide)) gd tk (by rfl) T.g_is_label T.F_is_label.kp (T.k_is_label_thing) .nil (fun _ _ => .nil) (fun _ _ _ _ h => len_of_cons (fun _ _ _ _ h => len_of_nil h) h) (plk_cons (pm_var 0) (plk_nil))) (pl_cons (pm_callK0 (ks := ["thing"]) (ok_is_mark T) (hr.mono (by decide)) gd tk (by rfl) T.g_is_mark T.F_is_mark.kp (T.k_is_mark_thing) .nil (fun _ _ => .nil) (fun _ _ _ _ h => len_of_cons (fun _ _ _ _ h => len_of_nil h) h) (plk_cons (pm_var 0) (plk_nil))) (pl_cons (pm_callK0 (ks := ["thing"]) (ok_is_name T) (hr.mono (by decide)) gd tk (by rfl) T.g_is_name T.F_is_name.kp (T.k_is_name_thing) .nil (fun _ _ => .nil) (fun _ _ _ _ h => len_of_cons (fun _ _ _ _ h => len_of_nil h) h) (plk_cons (pm_var 0) (plk_nil))) (pl_nil))))))))
    (pmb_one (pms_ret (pm_and (pm_cmp (o_eq hr.units) (nomark _) (pm_callB .frz (c_repr gd (units128 hr)) (by rfl) T.b_repr (by decide +kernel) (pl_cons (pm_var 3) (pl_nil))) (pm_callB .frz (c_repr gd (units128 hr)) (by rfl) T.b_repr (by decide +kernel) (pl_cons (pm_bin .frz o_add (pm_var 2) (pm_var 2)) (pl_nil)))) (pm_one (pm_cmp (o_eq hr.units) (nomark _) (pm_callB .frz (c_repr gd (units128 hr)) (by rfl) T.b_repr (by decide +kernel) (pl_cons (pm_var 0) (pl_nil))) (pm_var 1)))))))))
theorem ok_law (T : Txt K mg) : FnM P w K mg base 4 T.a_law T.d_law ["_law_script"] f_law := by
  show FnM P w K mg base 4 T.a_law T.d_law ["_law_script"] (fnM N_law.length m_law)
  refine fn_m (m := m_law) T.F_law sc_law fun cdv A outer s H E hr gd tk pa => ?_
  exact pmb_cons (pms_set (i := 1) sc_law.nd rfl (by first | exact Or.inl rfl | exact Or.inr rfl) (pm_call (ok_L_deck T) (hr.mono (by decide)) gd tk (by rfl) T.g_L_deck T.F_L_deck.kp T.bd_L_deck .nil (fun _ _ => .nil) (pl_cons (pm_var 0) (pl_nil))))
    (pmb_cons (pms_for (mb := b_law_1) pa rfl (pim_range1 (by rfl) T.b_range (pl_cons (pm_int) (pl_nil))) (pmg_name (i := 2) sc_law.nd rfl (by first | exact Or.inl rfl | exact Or.inr rfl)) (pmb_cons (pms_asg (pm_call (ok_L_words T) (hr.mono (by decide)) gd tk (by rfl) T.g_L_words T.F_L_words.kp T.bd_L_words .nil (fun _ _ => .nil) (pl_cons (pm_var 1) (pl_cons (pm_int) (pl_nil)))) (pmg_tup rfl (pmgs_cons (pmg_name (i := 3) sc_law.nd rfl (by first | exact Or.inl rfl | exact Or.inr rfl)) (pmgs_cons (pmg_name (i := 4) sc_law.nd rfl (by first | exact Or.inl rfl | exact Or.inr rfl)) (pmgs_nil)))))
    (pmb_cons (pms_set (i := 5) sc_law.nd rfl (by first | exact Or.inl rfl | exact Or.inr rfl) (pm_call (ok_L_like_mark T) (hr.mono (by decide)) gd tk (by rfl) T.g_L_like_mark T.F_L_like_mark.kp T.bd_L_like_mark .nil (fun _ _ => .nil) (pl_cons (pm_var 1) (pl_nil))))
    (pmb_cons (pms_set (i := 6) sc_law.nd rfl (by first | exact Or.inl rfl | exact Or.inr rfl) (pm_call (ok_name_with T) (hr.mono (by decide)) gd tk (by rfl) T.g_name_with T.F_name_with.kp T.bd_name_with .nil (fun _ _ => .nil) (pl_cons (pm_var 5) (pl_cons (pm_var 3) (pl_nil)))))
    (pmb_cons (pms_if (pwb (pw_orM (pb_cmp (o_ne hr.units) (nomark _) (pm_var 6) (pm_call (ok_L_called T) (hr.mono (by decide)) gd tk (by rfl) T.g_L_called T.F_L_called.kp T.bd_L_called .nil (fun _ _ => .nil) (pl_cons (pm_var 5) (pl_cons (pm_var 3) (pl_nil))))) (pw_orM1 (pb_cmp (o_ne hr.units) (nomark _) (pm_var 6) (pm_callK0 (ks := ["label", "mark"]) (ok_name_with T) (hr.mono (by decide)) gd tk (by rfl) T.g_name_with T.F_name_with.kp (T.k_name_with_label_mark) .nil (fun _ _ => .nil) (fun _ _ _ _ h => len_of_cons (fun _ _ _ _ h => len_of_cons (fun _ _ _ _ h => len_of_nil h) h) h) (plk_cons (pm_var 3) (plk_cons (pm_var 5) (plk_nil)))))))) (pmb_one (pms_ret (pm_bl))) (pmb_nil))
    (pmb_cons (pms_if (pb_cmp (o_ne hr.units) (nomark _) (pm_tup (pl_cons (pm_call (ok_mark_in T) (hr.mono (by decide)) gd tk (by rfl) T.g_mark_in T.F_mark_in.kp T.bd_mark_in .nil (fun _ _ => .nil) (pl_cons (pm_var 6) (pl_nil))) (pl_cons (pm_call (ok_label_in T) (hr.mono (by decide)) gd tk (by rfl) T.g_label_in T.F_label_in.kp T.bd_label_in .nil (fun _ _ => .nil) (pl_cons (pm_var 6) (pl_nil))) (pl_cons (pm_callK0 (ks := ["name"]) (ok_mark_in T) (hr.mono (by decide)) gd tk (by rfl) T.g_mark_in T.F_mark_in.kp (T.k_mark_in_name) .nil (fun _ _ => .nil) (fun _ _ _ _ h => len_of_cons (fun _ _ _ _ h => len_of_nil h) h) (plk_cons (pm_var 6) (plk_nil))) (pl_cons (pm_callK0 (ks := ["name"]) (ok_label_in T) (hr.mono (by decide)) gd tk (by rfl) T.g_label_in T.F_label_in.kp (T.k_label_in_name) .nil (fun _ _ => .nil) (fun _ _ _ _ h => len_of_cons (fun _ _ _ _ h => len_of_nil h) h) (plk_cons (pm_var 6) (plk_nil))) (pl_nil)))))) (pm_bin .frz o_mul (pm_tup (pl_cons (pm_var 5) (pl_cons (pm_var 3) (pl_nil)))) (pm_int))) (pmb_one (pms_ret (pm_bl))) (pmb_nil))
    (pmb_cons (pms_set (i := 7) sc_law.nd rfl (by first | exact Or.inl rfl | exact Or.inr rfl) (pm_lst .frz (pl_cons (pm_var 3) (pl_cons (pm_bin .frz o_add (pm_var 4) (pm_sl .frz (pm_str) (pmo_none) (pmo_some (pm_bin .frz o_sub (pm_int) (pm_callB .frz c_len (by rfl) T.b_len PySem.boot_len (pl_cons (pm_var 4) (pl_nil))))))) (pl_cons (pm_bin .frz o_mul (pm_var 3) (pm_int)) (pl_cons (pm_var 5) (pl_cons (pm_var 6) (pl_cons (pm_call (ok_L_thing_text T) (hr.mono (by decide)) gd tk (by rfl) T.g_L_thing_text T.F_L_thing_text.kp T.bd_L_thing_text .nil (fun _ _ => .nil) (pl_cons (pm_var 1) (pl_nil))) (pl_nil)))))))))
    (pmb_one (pms_for (mb := b_law_2) pa rfl (pim_seq (pm_bin .frz o_add (pm_bin .frz o_add (pm_bin .frz o_add (pm_var 7) (pm_lc (own := [("_law_one", 9)]) .frz rfl sc_law.nd (pim_seq (pm_bin .frz o_mul (pm_sl .frz (pm_var 7) (pmo_none) (pmo_some (pm_int))) (pm_int))) (blkOk_by (own := [("_law_one", 9)]) (N := N_law) (sc := defScope s_law) (by decide +kernel)) (fun _ _ _ _ _ => pmg_name (i := 9) sc_law.nd rfl (by first | exact Or.inl rfl | exact Or.inr rfl)) (fun _ _ _ _ _ => ptm_nil) (fun _ _ _ _ _ => show PM _ _ _ e_law_1 from pm_call (ok_L_otherwise T) (hr.mono (by decide)) gd takes0 (by rfl) T.g_L_otherwise T.F_L_otherwise.kp T.bd_L_otherwise .nil (fun _ _ => .nil) (pl_cons (pm_var 1) (pl_cons (pm_var 9) (pl_nil)))) (by decide))) (pm_call (ok_L_odd T) (hr.mono (by decide)) gd tk (by rfl) T.g_L_odd T.F_L_odd.kp T.bd_L_odd .nil (fun _ _ => .nil) (pl_cons (pm_var 6) (pl_nil)))) (pm_sl .frz (pm_var 7) (pmo_none) (pmo_some (pm_int))))) (pmg_name (i := 8) sc_law.nd rfl (by first | exact Or.inl rfl | exact Or.inr rfl)) (pmb_one (pms_if (pb_not (pb_of (pm_call (ok_L_right T) (hr.mono (by decide)) gd tk (by rfl) T.g_L_right T.F_L_right.kp T.bd_L_right .nil (fun _ _ => .nil) (pl_cons (pm_var 8) (pl_nil))))) (pmb_one (pms_ret (pm_bl))) (pmb_nil))))))))))))
    (pmb_one (pms_ret (pm_bl))))
end
def txt {K : PySem.W.Frag} {h : Heap} {mg : Str → Option Value} (X : K.In h) (G : h.Ns mainGlobals mg) {t_MOST : Tok}
  {t_SIGNS : Tok}
  {t_LETTERS : Tok}
  {t_LONGEST_LABEL : Tok}
  {t_FIGURES : Tok}
  {t_LONG : Tok}
  {t_BEGIN : Tok}
  {t_BETWEEN : Tok}
  {t_END : Tok}
  {t_AT : Tok}
  {a_is_thing : Addr} {od_is_thing an_is_thing : Option Addr} {sl_is_thing : Array (Option Value)} {oc_is_thing kV_is_thing dc_is_thing pm_is_thing cd_is_thing ct_is_thing : Value}
  {a_is_label : Addr} {od_is_label an_is_label : Option Addr} {sl_is_label : Array (Option Value)} {oc_is_label kV_is_label dc_is_label pm_is_label cd_is_label ct_is_label : Value}
  {a_is_mark : Addr} {od_is_mark an_is_mark : Option Addr} {sl_is_mark : Array (Option Value)} {oc_is_mark kV_is_mark dc_is_mark pm_is_mark cd_is_mark ct_is_mark : Value}
  {a_name_with : Addr} {od_name_with an_name_with : Option Addr} {sl_name_with : Array (Option Value)} {oc_name_with kV_name_with dc_name_with pm_name_with cd_name_with ct_name_with : Value}
  {a_mark_in : Addr} {od_mark_in an_mark_in : Option Addr} {sl_mark_in : Array (Option Value)} {oc_mark_in kV_mark_in dc_mark_in pm_mark_in cd_mark_in ct_mark_in : Value}
  {a_label_in : Addr} {od_label_in an_label_in : Option Addr} {sl_label_in : Array (Option Value)} {oc_label_in kV_label_in dc_label_in pm_label_in cd_label_in ct_label_in : Value}
  {a_L_deck : Addr} {od_L_deck an_L_deck : Option Addr} {sl_L_deck : Array (Option Value)} {oc_L_deck kV_L_deck dc_L_deck pm_L_deck cd_L_deck ct_L_deck : Value}
  {a_L_draw : Addr} {od_L_draw an_L_draw : Option Addr} {sl_L_draw : Array (Option Value)} {oc_L_draw kV_L_draw dc_L_draw pm_L_draw cd_L_draw ct_L_draw : Value}
  {a_L_signs : Addr} {od_L_signs an_L_signs : Option Addr} {sl_L_signs : Array (Option Value)} {oc_L_signs kV_L_signs dc_L_signs pm_L_signs cd_L_signs ct_L_signs : Value}
  {a_L_is_word : Addr} {od_L_is_word an_L_is_word : Option Addr} {sl_L_is_word : Array (Option Value)} {oc_L_is_word kV_L_is_word dc_L_is_word pm_L_is_word cd_L_is_word ct_L_is_word : Value}
  {a_L_is_mark : Addr} {od_L_is_mark an_L_is_mark : Option Addr} {sl_L_is_mark : Array (Option Value)} {oc_L_is_mark kV_L_is_mark dc_L_is_mark pm_L_is_mark cd_L_is_mark ct_L_is_mark : Value}
  {a_L_called : Addr} {od_L_called an_L_called : Option Addr} {sl_L_called : Array (Option Value)} {oc_L_called kV_L_called dc_L_called pm_L_called cd_L_called ct_L_called : Value}
  {a_L_odd : Addr} {od_L_odd an_L_odd : Option Addr} {sl_L_odd : Array (Option Value)} {oc_L_odd kV_L_odd dc_L_odd pm_L_odd cd_L_odd ct_L_odd : Value}
  {a_is_name : Addr} {od_is_name an_is_name : Option Addr} {sl_is_name : Array (Option Value)} {oc_is_name kV_is_name dc_is_name pm_is_name cd_is_name ct_is_name : Value}
  {a_L_words : Addr} {od_L_words an_L_words : Option Addr} {sl_L_words : Array (Option Value)} {oc_L_words kV_L_words dc_L_words pm_L_words cd_L_words ct_L_words : Value}
  {a_L_is_called : Addr} {od_L_is_called an_L_is_called : Option Addr} {sl_L_is_called : Array (Option Value)} {oc_L_is_called kV_L_is_called dc_L_is_called pm_L_is_called cd_L_is_called ct_L_is_called : Value}
  {a_L_like_mark : Addr} {od_L_like_mark an_L_like_mark : Option Addr} {sl_L_like_mark : Array (Option Value)} {oc_L_like_mark kV_L_like_mark dc_L_like_mark pm_L_like_mark cd_L_like_mark ct_L_like_mark : Value}
  {a_L_otherwise : Addr} {od_L_otherwise an_L_otherwise : Option Addr} {sl_L_otherwise : Array (Option Value)} {oc_L_otherwise kV_L_otherwise dc_L_otherwise pm_L_otherwise cd_L_otherwise ct_L_otherwise : Value}
  {a_L_thing_text : Addr} {od_L_thing_text an_L_thing_text : Option Addr} {sl_L_thing_text : Array (Option Value)} {oc_L_thing_text kV_L_thing_text dc_L_thing_text pm_L_thing_text cd_L_thing_text ct_L_thing_text : Value}
  {a_L_right : Addr} {od_L_right an_L_right : Option Addr} {sl_L_right : Array (Option Value)} {oc_L_right kV_L_right dc_L_right pm_L_right cd_L_right ct_L_right : Value}
  {a_law : Addr} {od_law an_law : Option Addr} {sl_law : Array (Option Value)} {oc_law kV_law dc_law pm_law cd_law ct_law : Value}
  (h_MOST : PySem.W.nsIn K mainGlobals "MOST" = some (some (.int 400 t_MOST)))
  (h_SIGNS : PySem.W.nsIn K mainGlobals "SIGNS" = some (some (.str k_SIGNS t_SIGNS)))
  (h_LETTERS : PySem.W.nsIn K mainGlobals "LETTERS" = some (some (.str k_LETTERS t_LETTERS)))
  (h_LONGEST_LABEL : PySem.W.nsIn K mainGlobals "LONGEST_LABEL" = some (some (.int 8 t_LONGEST_LABEL)))
  (h_FIGURES : PySem.W.nsIn K mainGlobals "FIGURES" = some (some (.str k_FIGURES t_FIGURES)))
  (h_LONG : PySem.W.nsIn K mainGlobals "LONG" = some (some (.int 8 t_LONG)))
  (h_BEGIN : PySem.W.nsIn K mainGlobals "BEGIN" = some (some (.str k_BEGIN t_BEGIN)))
  (h_BETWEEN : PySem.W.nsIn K mainGlobals "BETWEEN" = some (some (.str k_BETWEEN t_BETWEEN)))
  (h_END : PySem.W.nsIn K mainGlobals "END" = some (some (.str k_END t_END)))
  (h_AT : PySem.W.nsIn K mainGlobals "AT" = some (some (.int 9 t_AT)))
  (h_all : PySem.W.nsIn K mainGlobals "all" = some none)
  (h_isinstance : PySem.W.nsIn K mainGlobals "isinstance" = some none)
  (h_len : PySem.W.nsIn K mainGlobals "len" = some none)
  (h_list : PySem.W.nsIn K mainGlobals "list" = some none)
  (h_range : PySem.W.nsIn K mainGlobals "range" = some none)
  (h_repr : PySem.W.nsIn K mainGlobals "repr" = some none)
  (h_str : PySem.W.nsIn K mainGlobals "str" = some none)
  (h_sum : PySem.W.nsIn K mainGlobals "sum" = some none)
  (h_tuple : PySem.W.nsIn K mainGlobals "tuple" = some none)
  (g_is_thing : PySem.W.nsIn K mainGlobals "is_thing" = some (some (.ref a_is_thing))) (l_is_thing : K.lookup a_is_thing = some ⟨oc_is_thing, od_is_thing, .func (PySem.W.fnOf "is_thing" "is_thing" (defArgs s_is_thing) (defBody s_is_thing) (defScope s_is_thing) .none kV_is_thing dc_is_thing pm_is_thing an_is_thing cd_is_thing ct_is_thing), sl_is_thing⟩) (c_is_thing : PySem.W.codeIn K cd_is_thing "is_thing" = true) (p_is_thing : PySem.W.keepIn K (.ref a_is_thing) = true)
  (g_is_label : PySem.W.nsIn K mainGlobals "is_label" = some (some (.ref a_is_label))) (l_is_label : K.lookup a_is_label = some ⟨oc_is_label, od_is_label, .func (PySem.W.fnOf "is_label" "is_label" (defArgs s_is_label) (defBody s_is_label) (defScope s_is_label) .none kV_is_label dc_is_label pm_is_label an_is_label cd_is_label ct_is_label), sl_is_label⟩) (c_is_label : PySem.W.codeIn K cd_is_label "is_label" = true) (p_is_label : PySem.W.keepIn K (.ref a_is_label) = true)
  (g_is_mark : PySem.W.nsIn K mainGlobals "is_mark" = some (some (.ref a_is_mark))) (l_is_mark : K.lookup a_is_mark = some ⟨oc_is_mark, od_is_mark, .func (PySem.W.fnOf "is_mark" "is_mark" (defArgs s_is_mark) (defBody s_is_mark) (defScope s_is_mark) .none kV_is_mark dc_is_mark pm_is_mark an_is_mark cd_is_mark ct_is_mark), sl_is_mark⟩) (c_is_mark : PySem.W.codeIn K cd_is_mark "is_mark" = true) (p_is_mark : PySem.W.keepIn K (.ref a_is_mark) = true)
  (g_name_with : PySem.W.nsIn K mainGlobals "name_with" = some (some (.ref a_name_with))) (l_name_with : K.lookup a_name_with = some ⟨oc_name_with, od_name_with, .func (PySem.W.fnOf "name_with" "name_with" (defArgs s_name_with) (defBody s_name_with) (defScope s_name_with) .none kV_name_with dc_name_with pm_name_with an_name_with cd_name_with ct_name_with), sl_name_with⟩) (c_name_with : PySem.W.codeIn K cd_name_with "name_with" = true) (p_name_with : PySem.W.keepIn K (.ref a_name_with) = true)
  (g_mark_in : PySem.W.nsIn K mainGlobals "mark_in" = some (some (.ref a_mark_in))) (l_mark_in : K.lookup a_mark_in = some ⟨oc_mark_in, od_mark_in, .func (PySem.W.fnOf "mark_in" "mark_in" (defArgs s_mark_in) (defBody s_mark_in) (defScope s_mark_in) .none kV_mark_in dc_mark_in pm_mark_in an_mark_in cd_mark_in ct_mark_in), sl_mark_in⟩) (c_mark_in : PySem.W.codeIn K cd_mark_in "mark_in" = true) (p_mark_in : PySem.W.keepIn K (.ref a_mark_in) = true)
  (g_label_in : PySem.W.nsIn K mainGlobals "label_in" = some (some (.ref a_label_in))) (l_label_in : K.lookup a_label_in = some ⟨oc_label_in, od_label_in, .func (PySem.W.fnOf "label_in" "label_in" (defArgs s_label_in) (defBody s_label_in) (defScope s_label_in) .none kV_label_in dc_label_in pm_label_in an_label_in cd_label_in ct_label_in), sl_label_in⟩) (c_label_in : PySem.W.codeIn K cd_label_in "label_in" = true) (p_label_in : PySem.W.keepIn K (.ref a_label_in) = true)
  (g_L_deck : PySem.W.nsIn K mainGlobals "_law_deck" = some (some (.ref a_L_deck))) (l_L_deck : K.lookup a_L_deck = some ⟨oc_L_deck, od_L_deck, .func (PySem.W.fnOf "_law_deck" "_law_deck" (defArgs s_L_deck) (defBody s_L_deck) (defScope s_L_deck) .none kV_L_deck dc_L_deck pm_L_deck an_L_deck cd_L_deck ct_L_deck), sl_L_deck⟩) (c_L_deck : PySem.W.codeIn K cd_L_deck "_law_deck" = true) (p_L_deck : PySem.W.keepIn K (.ref a_L_deck) = true)
  (g_L_draw : PySem.W.nsIn K mainGlobals "_law_draw" = some (some (.ref a_L_draw))) (l_L_draw : K.lookup a_L_draw = some ⟨oc_L_draw, od_L_draw, .func (PySem.W.fnOf "_law_draw" "_law_draw" (defArgs s_L_draw) (defBody s_L_draw) (defScope s_L_draw) .none kV_L_draw dc_L_draw pm_L_draw an_L_draw cd_L_draw ct_L_draw), sl_L_draw⟩) (c_L_draw : PySem.W.codeIn K cd_L_draw "_law_draw" = true) (p_L_draw : PySem.W.keepIn K (.ref a_L_draw) = true)
  (g_L_signs : PySem.W.nsIn K mainGlobals "_law_signs" = some (some (.ref a_L_signs))) (l_L_signs : K.lookup a_L_signs = some ⟨oc_L_signs, od_L_signs, .func (PySem.W.fnOf "_law_signs" "_law_signs" (defArgs s_L_signs) (defBody s_L_signs) (defScope s_L_signs) .none kV_L_signs dc_L_signs pm_L_signs an_L_signs cd_L_signs ct_L_signs), sl_L_signs⟩) (c_L_signs : PySem.W.codeIn K cd_L_signs "_law_signs" = true) (p_L_signs : PySem.W.keepIn K (.ref a_L_signs) = true)
  (g_L_is_word : PySem.W.nsIn K mainGlobals "_law_is_word" = some (some (.ref a_L_is_word))) (l_L_is_word : K.lookup a_L_is_word = some ⟨oc_L_is_word, od_L_is_word, .func (PySem.W.fnOf "_law_is_word" "_law_is_word" (defArgs s_L_is_word) (defBody s_L_is_word) (defScope s_L_is_word) .none kV_L_is_word dc_L_is_word pm_L_is_word an_L_is_word cd_L_is_word ct_L_is_word), sl_L_is_word⟩) (c_L_is_word : PySem.W.codeIn K cd_L_is_word "_law_is_word" = true) (p_L_is_word : PySem.W.keepIn K (.ref a_L_is_word) = true)
  (g_L_is_mark : PySem.W.nsIn K mainGlobals "_law_is_mark" = some (some (.ref a_L_is_mark))) (l_L_is_mark : K.lookup a_L_is_mark = some ⟨oc_L_is_mark, od_L_is_mark, .func (PySem.W.fnOf "_law_is_mark" "_law_is_mark" (defArgs s_L_is_mark) (defBody s_L_is_mark) (defScope s_L_is_mark) .none kV_L_is_mark dc_L_is_mark pm_L_is_mark an_L_is_mark cd_L_is_mark ct_L_is_mark), sl_L_is_mark⟩) (c_L_is_mark : PySem.W.codeIn K cd_L_is_mark "_law_is_mark" = true) (p_L_is_mark : PySem.W.keepIn K (.ref a_L_is_mark) = true)
  (g_L_called : PySem.W.nsIn K mainGlobals "_law_called" = some (some (.ref a_L_called))) (l_L_called : K.lookup a_L_called = some ⟨oc_L_called, od_L_called, .func (PySem.W.fnOf "_law_called" "_law_called" (defArgs s_L_called) (defBody s_L_called) (defScope s_L_called) .none kV_L_called dc_L_called pm_L_called an_L_called cd_L_called ct_L_called), sl_L_called⟩) (c_L_called : PySem.W.codeIn K cd_L_called "_law_called" = true) (p_L_called : PySem.W.keepIn K (.ref a_L_called) = true)
  (g_L_odd : PySem.W.nsIn K mainGlobals "_law_odd" = some (some (.ref a_L_odd))) (l_L_odd : K.lookup a_L_odd = some ⟨oc_L_odd, od_L_odd, .func (PySem.W.fnOf "_law_odd" "_law_odd" (defArgs s_L_odd) (defBody s_L_odd) (defScope s_L_odd) .none kV_L_odd dc_L_odd pm_L_odd an_L_odd cd_L_odd ct_L_odd), sl_L_odd⟩) (c_L_odd : PySem.W.codeIn K cd_L_odd "_law_odd" = true) (p_L_odd : PySem.W.keepIn K (.ref a_L_odd) = true)
  (g_is_name : PySem.W.nsIn K mainGlobals "is_name" = some (some (.ref a_is_name))) (l_is_name : K.lookup a_is_name = some ⟨oc_is_name, od_is_name, .func (PySem.W.fnOf "is_name" "is_name" (defArgs s_is_name) (defBody s_is_name) (defScope s_is_name) .none kV_is_name dc_is_name pm_is_name an_is_name cd_is_name ct_is_name), sl_is_name⟩) (c_is_name : PySem.W.codeIn K cd_is_name "is_name" = true) (p_is_name : PySem.W.keepIn K (.ref a_is_name) = true)
  (g_L_words : PySem.W.nsIn K mainGlobals "_law_words" = some (some (.ref a_L_words))) (l_L_words : K.lookup a_L_words = some ⟨oc_L_words, od_L_words, .func (PySem.W.fnOf "_law_words" "_law_words" (defArgs s_L_words) (defBody s_L_words) (defScope s_L_words) .none kV_L_words dc_L_words pm_L_words an_L_words cd_L_words ct_L_words), sl_L_words⟩) (c_L_words : PySem.W.codeIn K cd_L_words "_law_words" = true) (p_L_words : PySem.W.keepIn K (.ref a_L_words) = true)
  (g_L_is_called : PySem.W.nsIn K mainGlobals "_law_is_called" = some (some (.ref a_L_is_called))) (l_L_is_called : K.lookup a_L_is_called = some ⟨oc_L_is_called, od_L_is_called, .func (PySem.W.fnOf "_law_is_called" "_law_is_called" (defArgs s_L_is_called) (defBody s_L_is_called) (defScope s_L_is_called) .none kV_L_is_called dc_L_is_called pm_L_is_called an_L_is_called cd_L_is_called ct_L_is_called), sl_L_is_called⟩) (c_L_is_called : PySem.W.codeIn K cd_L_is_called "_law_is_called" = true) (p_L_is_called : PySem.W.keepIn K (.ref a_L_is_called) = true)
  (g_L_like_mark : PySem.W.nsIn K mainGlobals "_law_like_mark" = some (some (.ref a_L_like_mark))) (l_L_like_mark : K.lookup a_L_like_mark = some ⟨oc_L_like_mark, od_L_like_mark, .func (PySem.W.fnOf "_law_like_mark" "_law_like_mark" (defArgs s_L_like_mark) (defBody s_L_like_mark) (defScope s_L_like_mark) .none kV_L_like_mark dc_L_like_mark pm_L_like_mark an_L_like_mark cd_L_like_mark ct_L_like_mark), sl_L_like_mark⟩) (c_L_like_mark : PySem.W.codeIn K cd_L_like_mark "_law_like_mark" = true) (p_L_like_mark : PySem.W.keepIn K (.ref a_L_like_mark) = true)
  (g_L_otherwise : PySem.W.nsIn K mainGlobals "_law_otherwise" = some (some (.ref a_L_otherwise))) (l_L_otherwise : K.lookup a_L_otherwise = some ⟨oc_L_otherwise, od_L_otherwise, .func (PySem.W.fnOf "_law_otherwise" "_law_otherwise" (defArgs s_L_otherwise) (defBody s_L_otherwise) (defScope s_L_otherwise) .none kV_L_otherwise dc_L_otherwise pm_L_otherwise an_L_otherwise cd_L_otherwise ct_L_otherwise), sl_L_otherwise⟩) (c_L_otherwise : PySem.W.codeIn K cd_L_otherwise "_law_otherwise" = true) (p_L_otherwise : PySem.W.keepIn K (.ref a_L_otherwise) = true)
  (g_L_thing_text : PySem.W.nsIn K mainGlobals "_law_thing_text" = some (some (.ref a_L_thing_text))) (l_L_thing_text : K.lookup a_L_thing_text = some ⟨oc_L_thing_text, od_L_thing_text, .func (PySem.W.fnOf "_law_thing_text" "_law_thing_text" (defArgs s_L_thing_text) (defBody s_L_thing_text) (defScope s_L_thing_text) .none kV_L_thing_text dc_L_thing_text pm_L_thing_text an_L_thing_text cd_L_thing_text ct_L_thing_text), sl_L_thing_text⟩) (c_L_thing_text : PySem.W.codeIn K cd_L_thing_text "_law_thing_text" = true) (p_L_thing_text : PySem.W.keepIn K (.ref a_L_thing_text) = true)
  (g_L_right : PySem.W.nsIn K mainGlobals "_law_right" = some (some (.ref a_L_right))) (l_L_right : K.lookup a_L_right = some ⟨oc_L_right, od_L_right, .func (PySem.W.fnOf "_law_right" "_law_right" (defArgs s_L_right) (defBody s_L_right) (defScope s_L_right) .none kV_L_right dc_L_right pm_L_right an_L_right cd_L_right ct_L_right), sl_L_right⟩) (c_L_right : PySem.W.codeIn K cd_L_right "_law_right" = true) (p_L_right : PySem.W.keepIn K (.ref a_L_right) = true)
  (g_law : PySem.W.nsIn K mainGlobals "law" = some (some (.ref a_law))) (l_law : K.lookup a_law = some ⟨oc_law, od_law, .func (PySem.W.fnOf "law" "law" (defArgs s_law) (defBody s_law) (defScope s_law) .none kV_law dc_law pm_law an_law cd_law ct_law), sl_law⟩) (c_law : PySem.W.codeIn K cd_law "law" = true) (p_law : PySem.W.keepIn K (.ref a_law) = true) : Txt K mg := ⟨t_MOST, PySem.W.mg_of X G h_MOST,
  t_SIGNS, PySem.W.mg_of X G h_SIGNS,
  t_LETTERS, PySem.W.mg_of X G h_LETTERS,
  t_LONGEST_LABEL, PySem.W.mg_of X G h_LONGEST_LABEL,
  t_FIGURES, PySem.W.mg_of X G h_FIGURES,
  t_LONG, PySem.W.mg_of X G h_LONG,
  t_BEGIN, PySem.W.mg_of X G h_BEGIN,
  t_BETWEEN, PySem.W.mg_of X G h_BETWEEN,
  t_END, PySem.W.mg_of X G h_END,
  t_AT, PySem.W.mg_of X G h_AT,
  PySem.W.mg_none_of X G h_all,
  PySem.W.mg_none_of X G h_isinstance,
  PySem.W.mg_none_of X G h_len,
  PySem.W.mg_none_of X G h_list,
  PySem.W.mg_none_of X G h_range,
  PySem.W.mg_none_of X G h_repr,
  PySem.W.mg_none_of X G h_str,
  PySem.W.mg_none_of X G h_sum,
  PySem.W.mg_none_of X G h_tuple,
  a_is_thing, _, fun_mk l_is_thing c_is_thing p_is_thing, PySem.W.mg_of X G g_is_thing, (fun_mk (st := s_is_thing) l_is_thing c_is_thing p_is_thing).binds (ps := ["thing"]) fun _ _ _ _ _ _ us hl => match us, hl with | [_], _ => rfl,
  a_is_label, _, fun_mk l_is_label c_is_label p_is_label, PySem.W.mg_of X G g_is_label, (fun_mk (st := s_is_label) l_is_label c_is_label p_is_label).binds (ps := ["thing"]) fun _ _ _ _ _ _ us hl => match us, hl with | [_], _ => rfl,
  a_is_mark, _, fun_mk l_is_mark c_is_mark p_is_mark, PySem.W.mg_of X G g_is_mark, (fun_mk (st := s_is_mark) l_is_mark c_is_mark p_is_mark).binds (ps := ["thing"]) fun _ _ _ _ _ _ us hl => match us, hl with | [_], _ => rfl,
  a_name_with, _, fun_mk l_name_with c_name_with p_name_with, PySem.W.mg_of X G g_name_with, (fun_mk (st := s_name_with) l_name_with c_name_with p_name_with).binds (ps := ["mark", "label"]) fun _ _ _ _ _ _ us hl => match us, hl with | [_, _], _ => rfl,
  a_mark_in, _, fun_mk l_mark_in c_mark_in p_mark_in, PySem.W.mg_of X G g_mark_in, (fun_mk (st := s_mark_in) l_mark_in c_mark_in p_mark_in).binds (ps := ["name"]) fun _ _ _ _ _ _ us hl => match us, hl with | [_], _ => rfl,
  a_label_in, _, fun_mk l_label_in c_label_in p_label_in, PySem.W.mg_of X G g_label_in, (fun_mk (st := s_label_in) l_label_in c_label_in p_label_in).binds (ps := ["name"]) fun _ _ _ _ _ _ us hl => match us, hl with | [_], _ => rfl,
  a_L_deck, _, fun_mk l_L_deck c_L_deck p_L_deck, PySem.W.mg_of X G g_L_deck, (fun_mk (st := s_L_deck) l_L_deck c_L_deck p_L_deck).binds (ps := ["_law_script"]) fun _ _ _ _ _ _ us hl => match us, hl with | [_], _ => rfl,
  a_L_draw, _, fun_mk l_L_draw c_L_draw p_L_draw, PySem.W.mg_of X G g_L_draw, (fun_mk (st := s_L_draw) l_L_draw c_L_draw p_L_draw).binds (ps := ["_law_deck_here", "_law_many"]) fun _ _ _ _ _ _ us hl => match us, hl with | [_, _], _ => rfl,
  a_L_signs, _, fun_mk l_L_signs c_L_signs p_L_signs, PySem.W.mg_of X G g_L_signs, (fun_mk (st := s_L_signs) l_L_signs c_L_signs p_L_signs).binds (ps := []) fun _ _ _ _ _ _ us hl => match us, hl with | [], _ => rfl,
  a_L_is_word, _, fun_mk l_L_is_word c_L_is_word p_L_is_word, PySem.W.mg_of X G g_L_is_word, (fun_mk (st := s_L_is_word) l_L_is_word c_L_is_word p_L_is_word).binds (ps := ["_law_it"]) fun _ _ _ _ _ _ us hl => match us, hl with | [_], _ => rfl,
  a_L_is_mark, _, fun_mk l_L_is_mark c_L_is_mark p_L_is_mark, PySem.W.mg_of X G g_L_is_mark, (fun_mk (st := s_L_is_mark) l_L_is_mark c_L_is_mark p_L_is_mark).binds (ps := ["_law_it"]) fun _ _ _ _ _ _ us hl => match us, hl with | [_], _ => rfl,
  a_L_called, _, fun_mk l_L_called c_L_called p_L_called, PySem.W.mg_of X G g_L_called, (fun_mk (st := s_L_called) l_L_called c_L_called p_L_called).binds (ps := ["_law_like", "_law_word"]) fun _ _ _ _ _ _ us hl => match us, hl with | [_, _], _ => rfl,
  a_L_odd, _, fun_mk l_L_odd c_L_odd p_L_odd, PySem.W.mg_of X G g_L_odd, (fun_mk (st := s_L_odd) l_L_odd c_L_odd p_L_odd).binds (ps := ["_law_written"]) fun _ _ _ _ _ _ us hl => match us, hl with | [_], _ => rfl,
  a_is_name, _, fun_mk l_is_name c_is_name p_is_name, PySem.W.mg_of X G g_is_name, (fun_mk (st := s_is_name) l_is_name c_is_name p_is_name).binds (ps := ["thing"]) fun _ _ _ _ _ _ us hl => match us, hl with | [_], _ => rfl,
  a_L_words, _, fun_mk l_L_words c_L_words p_L_words, PySem.W.mg_of X G g_L_words, (fun_mk (st := s_L_words) l_L_words c_L_words p_L_words).binds (ps := ["_law_deck_here", "_law_many"]) fun _ _ _ _ _ _ us hl => match us, hl with | [_, _], _ => rfl,
  a_L_is_called, _, fun_mk l_L_is_called c_L_is_called p_L_is_called, PySem.W.mg_of X G g_L_is_called, (fun_mk (st := s_L_is_called) l_L_is_called c_L_is_called p_L_is_called).binds (ps := ["_law_it"]) fun _ _ _ _ _ _ us hl => match us, hl with | [_], _ => rfl,
  a_L_like_mark, _, fun_mk l_L_like_mark c_L_like_mark p_L_like_mark, PySem.W.mg_of X G g_L_like_mark, (fun_mk (st := s_L_like_mark) l_L_like_mark c_L_like_mark p_L_like_mark).binds (ps := ["_law_deck_here"]) fun _ _ _ _ _ _ us hl => match us, hl with | [_], _ => rfl,
  a_L_otherwise, _, fun_mk l_L_otherwise c_L_otherwise p_L_otherwise, PySem.W.mg_of X G g_L_otherwise, (fun_mk (st := s_L_otherwise) l_L_otherwise c_L_otherwise p_L_otherwise).binds (ps := ["_law_deck_here", "_law_written"]) fun _ _ _ _ _ _ us hl => match us, hl with | [_, _], _ => rfl,
  a_L_thing_text, _, fun_mk l_L_thing_text c_L_thing_text p_L_thing_text, PySem.W.mg_of X G g_L_thing_text, (fun_mk (st := s_L_thing_text) l_L_thing_text c_L_thing_text p_L_thing_text).binds (ps := ["_law_deck_here"]) fun _ _ _ _ _ _ us hl => match us, hl with | [_], _ => rfl,
  a_L_right, _, fun_mk l_L_right c_L_right p_L_right, PySem.W.mg_of X G g_L_right, (fun_mk (st := s_L_right) l_L_right c_L_right p_L_right).binds (ps := ["_law_it"]) fun _ _ _ _ _ _ us hl => match us, hl with | [_], _ => rfl,
  a_law, _, fun_mk l_law c_law p_law, PySem.W.mg_of X G g_law, (fun_mk (st := s_law) l_law c_law p_law).binds (ps := ["_law_script"]) fun _ _ _ _ _ _ us hl => match us, hl with | [_], _ => rfl,
  fun s ws r _ hl e => by
    match ws, hl with
    | [_], _ => cases e; exact fun_bindsG (fun_mk (st := s_is_label) l_is_label c_is_label p_is_label) s fun _ _ _ _ _ _ => rfl,
  fun s ws r _ hl e => by
    match ws, hl with
    | [_], _ => cases e; exact fun_bindsG (fun_mk (st := s_is_mark) l_is_mark c_is_mark p_is_mark) s fun _ _ _ _ _ _ => rfl,
  fun s ws r _ hl e => by
    match ws, hl with
    | [_], _ => cases e; exact fun_bindsG (fun_mk (st := s_is_name) l_is_name c_is_name p_is_name) s fun _ _ _ _ _ _ => rfl,
  fun s ws r _ hl e => by
    match ws, hl with
    | [_], _ => cases e; exact fun_bindsG (fun_mk (st := s_is_thing) l_is_thing c_is_thing p_is_thing) s fun _ _ _ _ _ _ => rfl,
  fun s ws r _ hl e => by
    match ws, hl with
    | [_], _ => cases e; exact fun_bindsG (fun_mk (st := s_label_in) l_label_in c_label_in p_label_in) s fun _ _ _ _ _ _ => rfl,
  fun s ws r _ hl e => by
    match ws, hl with
    | [_], _ => cases e; exact fun_bindsG (fun_mk (st := s_mark_in) l_mark_in c_mark_in p_mark_in) s fun _ _ _ _ _ _ => rfl,
  fun s ws r _ hl e => by
    match ws, hl with
    | [_, _], _ => cases e; exact fun_bindsG (fun_mk (st := s_name_with) l_name_with c_name_with p_name_with) s fun _ _ _ _ _ _ => rfl⟩
theorem all_mk {l : PySem.W.OpenLaw} {w : World} {K : PySem.W.Frag} {h : Heap} {mg : Str → Option Value} {fa : Addr} (X : K.In h) (G : h.Ns mainGlobals mg) (hfa : mg "law" = some (.ref fa)) {t_MOST : Tok}
  {t_SIGNS : Tok}
  {t_LETTERS : Tok}
  {t_LONGEST_LABEL : Tok}
  {t_FIGURES : Tok}
  {t_LONG : Tok}
  {t_BEGIN : Tok}
  {t_BETWEEN : Tok}
  {t_END : Tok}
  {t_AT : Tok}
  {a_is_thing : Addr} {od_is_thing an_is_thing : Option Addr} {sl_is_thing : Array (Option Value)} {oc_is_thing kV_is_thing dc_is_thing pm_is_thing cd_is_thing ct_is_thing : Value}
  {a_is_label : Addr} {od_is_label an_is_label : Option Addr} {sl_is_label : Array (Option Value)} {oc_is_label kV_is_label dc_is_label pm_is_label cd_is_label ct_is_label : Value}
  {a_is_mark : Addr} {od_is_mark an_is_mark : Option Addr} {sl_is_mark : Array (Option Value)} {oc_is_mark kV_is_mark dc_is_mark pm_is_mark cd_is_mark ct_is_mark : Value}
  {a_name_with : Addr} {od_name_with an_name_with : Option Addr} {sl_name_with : Array (Option Value)} {oc_name_with kV_name_with dc_name_with pm_name_with cd_name_with ct_name_with : Value}
  {a_mark_in : Addr} {od_mark_in an_mark_in : Option Addr} {sl_mark_in : Array (Option Value)} {oc_mark_in kV_mark_in dc_mark_in pm_mark_in cd_mark_in ct_mark_in : Value}
  {a_label_in : Addr} {od_label_in an_label_in : Option Addr} {sl_label_in : Array (Option Value)} {oc_label_in kV_label_in dc_label_in pm_label_in cd_label_in ct_label_in : Value}
  {a_L_deck : Addr} {od_L_deck an_L_deck : Option Addr} {sl_L_deck : Array (Option Value)} {oc_L_deck kV_L_deck dc_L_deck pm_L_deck cd_L_deck ct_L_deck : Value}
  {a_L_draw : Addr} {od_L_draw an_L_draw : Option Addr} {sl_L_draw : Array (Option Value)} {oc_L_draw kV_L_draw dc_L_draw pm_L_draw cd_L_draw ct_L_draw : Value}
  {a_L_signs : Addr} {od_L_signs an_L_signs : Option Addr} {sl_L_signs : Array (Option Value)} {oc_L_signs kV_L_signs dc_L_signs pm_L_signs cd_L_signs ct_L_signs : Value}
  {a_L_is_word : Addr} {od_L_is_word an_L_is_word : Option Addr} {sl_L_is_word : Array (Option Value)} {oc_L_is_word kV_L_is_word dc_L_is_word pm_L_is_word cd_L_is_word ct_L_is_word : Value}
  {a_L_is_mark : Addr} {od_L_is_mark an_L_is_mark : Option Addr} {sl_L_is_mark : Array (Option Value)} {oc_L_is_mark kV_L_is_mark dc_L_is_mark pm_L_is_mark cd_L_is_mark ct_L_is_mark : Value}
  {a_L_called : Addr} {od_L_called an_L_called : Option Addr} {sl_L_called : Array (Option Value)} {oc_L_called kV_L_called dc_L_called pm_L_called cd_L_called ct_L_called : Value}
  {a_L_odd : Addr} {od_L_odd an_L_odd : Option Addr} {sl_L_odd : Array (Option Value)} {oc_L_odd kV_L_odd dc_L_odd pm_L_odd cd_L_odd ct_L_odd : Value}
  {a_is_name : Addr} {od_is_name an_is_name : Option Addr} {sl_is_name : Array (Option Value)} {oc_is_name kV_is_name dc_is_name pm_is_name cd_is_name ct_is_name : Value}
  {a_L_words : Addr} {od_L_words an_L_words : Option Addr} {sl_L_words : Array (Option Value)} {oc_L_words kV_L_words dc_L_words pm_L_words cd_L_words ct_L_words : Value}
  {a_L_is_called : Addr} {od_L_is_called an_L_is_called : Option Addr} {sl_L_is_called : Array (Option Value)} {oc_L_is_called kV_L_is_called dc_L_is_called pm_L_is_called cd_L_is_called ct_L_is_called : Value}
  {a_L_like_mark : Addr} {od_L_like_mark an_L_like_mark : Option Addr} {sl_L_like_mark : Array (Option Value)} {oc_L_like_mark kV_L_like_mark dc_L_like_mark pm_L_like_mark cd_L_like_mark ct_L_like_mark : Value}
  {a_L_otherwise : Addr} {od_L_otherwise an_L_otherwise : Option Addr} {sl_L_otherwise : Array (Option Value)} {oc_L_otherwise kV_L_otherwise dc_L_otherwise pm_L_otherwise cd_L_otherwise ct_L_otherwise : Value}
  {a_L_thing_text : Addr} {od_L_thing_text an_L_thing_text : Option Addr} {sl_L_thing_text : Array (Option Value)} {oc_L_thing_text kV_L_thing_text dc_L_thing_text pm_L_thing_text cd_L_thing_text ct_L_thing_text : Value}
  {a_L_right : Addr} {od_L_right an_L_right : Option Addr} {sl_L_right : Array (Option Value)} {oc_L_right kV_L_right dc_L_right pm_L_right cd_L_right ct_L_right : Value}
  {a_law : Addr} {od_law an_law : Option Addr} {sl_law : Array (Option Value)} {oc_law kV_law dc_law pm_law cd_law ct_law : Value}
  (h_MOST : PySem.W.nsIn K mainGlobals "MOST" = some (some (.int 400 t_MOST)))
  (h_SIGNS : PySem.W.nsIn K mainGlobals "SIGNS" = some (some (.str k_SIGNS t_SIGNS)))
  (h_LETTERS : PySem.W.nsIn K mainGlobals "LETTERS" = some (some (.str k_LETTERS t_LETTERS)))
  (h_LONGEST_LABEL : PySem.W.nsIn K mainGlobals "LONGEST_LABEL" = some (some (.int 8 t_LONGEST_LABEL)))
  (h_FIGURES : PySem.W.nsIn K mainGlobals "FIGURES" = some (some (.str k_FIGURES t_FIGURES)))
  (h_LONG : PySem.W.nsIn K mainGlobals "LONG" = some (some (.int 8 t_LONG)))
  (h_BEGIN : PySem.W.nsIn K mainGlobals "BEGIN" = some (some (.str k_BEGIN t_BEGIN)))
  (h_BETWEEN : PySem.W.nsIn K mainGlobals "BETWEEN" = some (some (.str k_BETWEEN t_BETWEEN)))
  (h_END : PySem.W.nsIn K mainGlobals "END" = some (some (.str k_END t_END)))
  (h_AT : PySem.W.nsIn K mainGlobals "AT" = some (some (.int 9 t_AT)))
  (h_all : PySem.W.nsIn K mainGlobals "all" = some none)
  (h_isinstance : PySem.W.nsIn K mainGlobals "isinstance" = some none)
  (h_len : PySem.W.nsIn K mainGlobals "len" = some none)
  (h_list : PySem.W.nsIn K mainGlobals "list" = some none)
  (h_range : PySem.W.nsIn K mainGlobals "range" = some none)
  (h_repr : PySem.W.nsIn K mainGlobals "repr" = some none)
  (h_str : PySem.W.nsIn K mainGlobals "str" = some none)
  (h_sum : PySem.W.nsIn K mainGlobals "sum" = some none)
  (h_tuple : PySem.W.nsIn K mainGlobals "tuple" = some none)
  (g_is_thing : PySem.W.nsIn K mainGlobals "is_thing" = some (some (.ref a_is_thing))) (l_is_thing : K.lookup a_is_thing = some ⟨oc_is_thing, od_is_thing, .func (PySem.W.fnOf "is_thing" "is_thing" (defArgs s_is_thing) (defBody s_is_thing) (defScope s_is_thing) .none kV_is_thing dc_is_thing pm_is_thing an_is_thing cd_is_thing ct_is_thing), sl_is_thing⟩) (c_is_thing : PySem.W.codeIn K cd_is_thing "is_thing" = true) (p_is_thing : PySem.W.keepIn K (.ref a_is_thing) = true)
  (g_is_label : PySem.W.nsIn K mainGlobals "is_label" = some (some (.ref a_is_label))) (l_is_label : K.lookup a_is_label = some ⟨oc_is_label, od_is_label, .func (PySem.W.fnOf "is_label" "is_label" (defArgs s_is_label) (defBody s_is_label) (defScope s_is_label) .none kV_is_label dc_is_label pm_is_label an_is_label cd_is_label ct_is_label), sl_is_label⟩) (c_is_label : PySem.W.codeIn K cd_is_label "is_label" = true) (p_is_label : PySem.W.keepIn K (.ref a_is_label) = true)
  (g_is_mark : PySem.W.nsIn K mainGlobals "is_mark" = some (some (.ref a_is_mark))) (l_is_mark : K.lookup a_is_mark = some ⟨oc_is_mark, od_is_mark, .func (PySem.W.fnOf "is_mark" "is_mark" (defArgs s_is_mark) (defBody s_is_mark) (defScope s_is_mark) .none kV_is_mark dc_is_mark pm_is_mark an_is_mark cd_is_mark ct_is_mark), sl_is_mark⟩) (c_is_mark : PySem.W.codeIn K cd_is_mark "is_mark" = true) (p_is_mark : PySem.W.keepIn K (.ref a_is_mark) = true)
  (g_name_with : PySem.W.nsIn K mainGlobals "name_with" = some (some (.ref a_name_with))) (l_name_with : K.lookup a_name_with = some ⟨oc_name_with, od_name_with, .func (PySem.W.fnOf "name_with" "name_with" (defArgs s_name_with) (defBody s_name_with) (defScope s_name_with) .none kV_name_with dc_name_with pm_name_with an_name_with cd_name_with ct_name_with), sl_name_with⟩) (c_name_with : PySem.W.codeIn K cd_name_with "name_with" = true) (p_name_with : PySem.W.keepIn K (.ref a_name_with) = true)
  (g_mark_in : PySem.W.nsIn K mainGlobals "mark_in" = some (some (.ref a_mark_in))) (l_mark_in : K.lookup a_mark_in = some ⟨oc_mark_in, od_mark_in, .func (PySem.W.fnOf "mark_in" "mark_in" (defArgs s_mark_in) (defBody s_mark_in) (defScope s_mark_in) .none kV_mark_in dc_mark_in pm_mark_in an_mark_in cd_mark_in ct_mark_in), sl_mark_in⟩) (c_mark_in : PySem.W.codeIn K cd_mark_in "mark_in" = true) (p_mark_in : PySem.W.keepIn K (.ref a_mark_in) = true)
  (g_label_in : PySem.W.nsIn K mainGlobals "label_in" = some (some (.ref a_label_in))) (l_label_in : K.lookup a_label_in = some ⟨oc_label_in, od_label_in, .func (PySem.W.fnOf "label_in" "label_in" (defArgs s_label_in) (defBody s_label_in) (defScope s_label_in) .none kV_label_in dc_label_in pm_label_in an_label_in cd_label_in ct_label_in), sl_label_in⟩) (c_label_in : PySem.W.codeIn K cd_label_in "label_in" = true) (p_label_in : PySem.W.keepIn K (.ref a_label_in) = true)
  (g_L_deck : PySem.W.nsIn K mainGlobals "_law_deck" = some (some (.ref a_L_deck))) (l_L_deck : K.lookup a_L_deck = some ⟨oc_L_deck, od_L_deck, .func (PySem.W.fnOf "_law_deck" "_law_deck" (defArgs s_L_deck) (defBody s_L_deck) (defScope s_L_deck) .none kV_L_deck dc_L_deck pm_L_deck an_L_deck cd_L_deck ct_L_deck), sl_L_deck⟩) (c_L_deck : PySem.W.codeIn K cd_L_deck "_law_deck" = true) (p_L_deck : PySem.W.keepIn K (.ref a_L_deck) = true)
  (g_L_draw : PySem.W.nsIn K mainGlobals "_law_draw" = some (some (.ref a_L_draw))) (l_L_draw : K.lookup a_L_draw = some ⟨oc_L_draw, od_L_draw, .func (PySem.W.fnOf "_law_draw" "_law_draw" (defArgs s_L_draw) (defBody s_L_draw) (defScope s_L_draw) .none kV_L_draw dc_L_draw pm_L_draw an_L_draw cd_L_draw ct_L_draw), sl_L_draw⟩) (c_L_draw : PySem.W.codeIn K cd_L_draw "_law_draw" = true) (p_L_draw : PySem.W.keepIn K (.ref a_L_draw) = true)
  (g_L_signs : PySem.W.nsIn K mainGlobals "_law_signs" = some (some (.ref a_L_signs))) (l_L_signs : K.lookup a_L_signs = some ⟨oc_L_signs, od_L_signs, .func (PySem.W.fnOf "_law_signs" "_law_signs" (defArgs s_L_signs) (defBody s_L_signs) (defScope s_L_signs) .none kV_L_signs dc_L_signs pm_L_signs an_L_signs cd_L_signs ct_L_signs), sl_L_signs⟩) (c_L_signs : PySem.W.codeIn K cd_L_signs "_law_signs" = true) (p_L_signs : PySem.W.keepIn K (.ref a_L_signs) = true)
  (g_L_is_word : PySem.W.nsIn K mainGlobals "_law_is_word" = some (some (.ref a_L_is_word))) (l_L_is_word : K.lookup a_L_is_word = some ⟨oc_L_is_word, od_L_is_word, .func (PySem.W.fnOf "_law_is_word" "_law_is_word" (defArgs s_L_is_word) (defBody s_L_is_word) (defScope s_L_is_word) .none kV_L_is_word dc_L_is_word pm_L_is_word an_L_is_word cd_L_is_word ct_L_is_word), sl_L_is_word⟩) (c_L_is_word : PySem.W.codeIn K cd_L_is_word "_law_is_word" = true) (p_L_is_word : PySem.W.keepIn K (.ref a_L_is_word) = true)
  (g_L_is_mark : PySem.W.nsIn K mainGlobals "_law_is_mark" = some (some (.ref a_L_is_mark))) (l_L_is_mark : K.lookup a_L_is_mark = some ⟨oc_L_is_mark, od_L_is_mark, .func (PySem.W.fnOf "_law_is_mark" "_law_is_mark" (defArgs s_L_is_mark) (defBody s_L_is_mark) (defScope s_L_is_mark) .none kV_L_is_mark dc_L_is_mark pm_L_is_mark an_L_is_mark cd_L_is_mark ct_L_is_mark), sl_L_is_mark⟩) (c_L_is_mark : PySem.W.codeIn K cd_L_is_mark "_law_is_mark" = true) (p_L_is_mark : PySem.W.keepIn K (.ref a_L_is_mark) = true)
  (g_L_called : PySem.W.nsIn K mainGlobals "_law_called" = some (some (.ref a_L_called))) (l_L_called : K.lookup a_L_called = some ⟨oc_L_called, od_L_called, .func (PySem.W.fnOf "_law_called" "_law_called" (defArgs s_L_called) (defBody s_L_called) (defScope s_L_called) .none kV_L_called dc_L_called pm_L_called an_L_called cd_L_called ct_L_called), sl_L_called⟩) (c_L_called : PySem.W.codeIn K cd_L_called "_law_called" = true) (p_L_called : PySem.W.keepIn K (.ref a_L_called) = true)
  (g_L_odd : PySem.W.nsIn K mainGlobals "_law_odd" = some (some (.ref a_L_odd))) (l_L_odd : K.lookup a_L_odd = some ⟨oc_L_odd, od_L_odd, .func (PySem.W.fnOf "_law_odd" "_law_odd" (defArgs s_L_odd) (defBody s_L_odd) (defScope s_L_odd) .none kV_L_odd dc_L_odd pm_L_odd an_L_odd cd_L_odd ct_L_odd), sl_L_odd⟩) (c_L_odd : PySem.W.codeIn K cd_L_odd "_law_odd" = true) (p_L_odd : PySem.W.keepIn K (.ref a_L_odd) = true)
  (g_is_name : PySem.W.nsIn K mainGlobals "is_name" = some (some (.ref a_is_name))) (l_is_name : K.lookup a_is_name = some ⟨oc_is_name, od_is_name, .func (PySem.W.fnOf "is_name" "is_name" (defArgs s_is_name) (defBody s_is_name) (defScope s_is_name) .none kV_is_name dc_is_name pm_is_name an_is_name cd_is_name ct_is_name), sl_is_name⟩) (c_is_name : PySem.W.codeIn K cd_is_name "is_name" = true) (p_is_name : PySem.W.keepIn K (.ref a_is_name) = true)
  (g_L_words : PySem.W.nsIn K mainGlobals "_law_words" = some (some (.ref a_L_words))) (l_L_words : K.lookup a_L_words = some ⟨oc_L_words, od_L_words, .func (PySem.W.fnOf "_law_words" "_law_words" (defArgs s_L_words) (defBody s_L_words) (defScope s_L_words) .none kV_L_words dc_L_words pm_L_words an_L_words cd_L_words ct_L_words), sl_L_words⟩) (c_L_words : PySem.W.codeIn K cd_L_words "_law_words" = true) (p_L_words : PySem.W.keepIn K (.ref a_L_words) = true)
  (g_L_is_called : PySem.W.nsIn K mainGlobals "_law_is_called" = some (some (.ref a_L_is_called))) (l_L_is_called : K.lookup a_L_is_called = some ⟨oc_L_is_called, od_L_is_called, .func (PySem.W.fnOf "_law_is_called" "_law_is_called" (defArgs s_L_is_called) (defBody s_L_is_called) (defScope s_L_is_called) .none kV_L_is_called dc_L_is_called pm_L_is_called an_L_is_called cd_L_is_called ct_L_is_called), sl_L_is_called⟩) (c_L_is_called : PySem.W.codeIn K cd_L_is_called "_law_is_called" = true) (p_L_is_called : PySem.W.keepIn K (.ref a_L_is_called) = true)
  (g_L_like_mark : PySem.W.nsIn K mainGlobals "_law_like_mark" = some (some (.ref a_L_like_mark))) (l_L_like_mark : K.lookup a_L_like_mark = some ⟨oc_L_like_mark, od_L_like_mark, .func (PySem.W.fnOf "_law_like_mark" "_law_like_mark" (defArgs s_L_like_mark) (defBody s_L_like_mark) (defScope s_L_like_mark) .none kV_L_like_mark dc_L_like_mark pm_L_like_mark an_L_like_mark cd_L_like_mark ct_L_like_mark), sl_L_like_mark⟩) (c_L_like_mark : PySem.W.codeIn K cd_L_like_mark "_law_like_mark" = true) (p_L_like_mark : PySem.W.keepIn K (.ref a_L_like_mark) = true)
  (g_L_otherwise : PySem.W.nsIn K mainGlobals "_law_otherwise" = some (some (.ref a_L_otherwise))) (l_L_otherwise : K.lookup a_L_otherwise = some ⟨oc_L_otherwise, od_L_otherwise, .func (PySem.W.fnOf "_law_otherwise" "_law_otherwise" (defArgs s_L_otherwise) (defBody s_L_otherwise) (defScope s_L_otherwise) .none kV_L_otherwise dc_L_otherwise pm_L_otherwise an_L_otherwise cd_L_otherwise ct_L_otherwise), sl_L_otherwise⟩) (c_L_otherwise : PySem.W.codeIn K cd_L_otherwise "_law_otherwise" = true) (p_L_otherwise : PySem.W.keepIn K (.ref a_L_otherwise) = true)
  (g_L_thing_text : PySem.W.nsIn K mainGlobals "_law_thing_text" = some (some (.ref a_L_thing_text))) (l_L_thing_text : K.lookup a_L_thing_text = some ⟨oc_L_thing_text, od_L_thing_text, .func (PySem.W.fnOf "_law_thing_text" "_law_thing_text" (defArgs s_L_thing_text) (defBody s_L_thing_text) (defScope s_L_thing_text) .none kV_L_thing_text dc_L_thing_text pm_L_thing_text an_L_thing_text cd_L_thing_text ct_L_thing_text), sl_L_thing_text⟩) (c_L_thing_text : PySem.W.codeIn K cd_L_thing_text "_law_thing_text" = true) (p_L_thing_text : PySem.W.keepIn K (.ref a_L_thing_text) = true)
  (g_L_right : PySem.W.nsIn K mainGlobals "_law_right" = some (some (.ref a_L_right))) (l_L_right : K.lookup a_L_right = some ⟨oc_L_right, od_L_right, .func (PySem.W.fnOf "_law_right" "_law_right" (defArgs s_L_right) (defBody s_L_right) (defScope s_L_right) .none kV_L_right dc_L_right pm_L_right an_L_right cd_L_right ct_L_right), sl_L_right⟩) (c_L_right : PySem.W.codeIn K cd_L_right "_law_right" = true) (p_L_right : PySem.W.keepIn K (.ref a_L_right) = true)
  (g_law : PySem.W.nsIn K mainGlobals "law" = some (some (.ref a_law))) (l_law : K.lookup a_law = some ⟨oc_law, od_law, .func (PySem.W.fnOf "law" "law" (defArgs s_law) (defBody s_law) (defScope s_law) .none kV_law dc_law pm_law an_law cd_law ct_law), sl_law⟩) (c_law : PySem.W.codeIn K cd_law "law" = true) (p_law : PySem.W.keepIn K (.ref a_law) = true) :
  ∃ (fd : FuncData) (m : List Mv → Sg → Res Mv), (∀ (s : Shared) (v : Value), BindsTo s fd ⟨[v], []⟩ [("_law_script", v)]) ∧ (∀ base : Heap, K.In base → base.Ns mainGlobals mg → FnM l.prog w K mg base 4 fa fd ["_law_script"] m) ∧ m = f_law := by
  have e := hfa.symm.trans (PySem.W.mg_of X G g_law)
  cases e
  exact ⟨_, f_law, fun s v => fun_bindsG (ps := ["_law_script"]) (args := ⟨[v], []⟩) (r := [v]) (fun_mk (st := s_law) l_law c_law p_law) s fun _ _ _ _ _ _ => rfl, fun base _ _ => ok_law (txt X G h_MOST h_SIGNS h_LETTERS h_LONGEST_LABEL h_FIGURES h_LONG h_BEGIN h_BETWEEN h_END h_AT h_all h_isinstance h_len h_list h_range h_repr h_str h_sum h_tuple g_is_thing l_is_thing c_is_thing p_is_thing g_is_label l_is_label c_is_label p_is_label g_is_mark l_is_mark c_is_mark p_is_mark g_name_with l_name_with c_name_with p_name_with g_mark_in l_mark_in c_mark_in p_mark_in g_label_in l_label_in c_label_in p_label_in g_L_deck l_L_deck c_L_deck p_L_deck g_L_draw l_L_draw c_L_draw p_L_draw g_L_signs l_L_signs c_L_signs p_L_signs g_L_is_word l_L_is_word c_L_is_word p_L_is_word g_L_is_mark l_L_is_mark c_L_is_mark p_L_is_mark g_L_called l_L_called c_L_called p_L_called g_L_odd l_L_odd c_L_odd p_L_odd g_is_name l_is_name c_is_name p_is_name g_L_words l_L_words c_L_words p_L_words g_L_is_called l_L_is_called c_L_is_called p_L_is_called g_L_like_mark l_L_like_mark c_L_like_mark p_L_like_mark g_L_otherwise l_L_otherwise c_L_otherwise p_L_otherwise g_L_thing_text l_L_thing_text c_L_thing_text p_L_thing_text g_L_right l_L_right c_L_right p_L_right g_law l_law c_law p_law), rfl⟩
end
end Law
end
section
set_option Elab.async false
set_option linter.all false
set_option maxRecDepth 100000
set_option maxHeartbeats 4000000
set_option autoImplicit false
namespace Law
open PySem PySem.Spec PyProof.Rows L2 MM
local macro_rules | `(tactic| walk_at "mm") => `(tactic| simp (disch := first | assumption | omega | exact MM.Q.shaped_int | exact MM.Q.shaped_nil | exact MM.Q.shaped_ints | exact MM.Q.shaped_bool | (refine of_eq_true (eq_true ?_); first | with_unfolding_all rfl | (simp only [MM.Q.free_d, MM.Q.free_ref, MM.Q.free_adr, MM.Q.frees_nil, MM.Q.frees_cons, MM.Q.frees_map, Bool.and_true, Bool.true_and]; done)) | (simp only [List.length_cons, List.length_nil, List.append_nil, List.map_cons, List.map_nil, List.length_append, List.length_map, List.length_reverse, MM.Q.dI_len, PySem.sizeLine_eq]; omega)) only [MM.Q.bind_ok, MM.Q.bind_exc, MM.Q.go_ok, MM.Q.go_exc, MM.Q.nox_ok, MM.Q.vr_some, MM.Q.ev_var, MM.Q.ev_c, MM.Q.ev_k, MM.Q.frzO_some, MM.Q.tupO_some, MM.Q.tupO_none, MM.Q.bear_val, MM.Q.bear_frz, MM.Q.bear_ref, MM.Q.bear_own, MM.Q.bear_tup, MM.Q.allD_nil, MM.Q.allD_cons, MM.Q.allD_map, MM.Q.bearO_some, MM.Q.ev_bin, MM.Q.ev_bin1, MM.Q.ev_bin2, MM.Q.add_int, MM.Q.sub_int, MM.Q.mul_int, MM.Q.mod_int, MM.Q.fdiv_int, MM.Q.pow_int, MM.Q.intB_int, MM.Q.datO_f, MM.Q.datO_t, MM.Q.data_d, MM.Q.data_ref, MM.Q.data_own, MM.Q.ev_eq_r, MM.Q.ev_eq_o, MM.Q.ev_eq_l, MM.Q.ev_eq_t, MM.Q.ev_eq_i, MM.Q.ev_eq_b, MM.Q.ev_eq_n, MM.Q.ev_eq_st, MM.Q.ev_eq_sf, MM.Q.eqO_some, MM.Q.eqC_t, MM.Q.eqC_f, MM.Q.eqv_nil, MM.Q.eqv_int, MM.Q.eqv_bool, MM.Q.in_str, MM.Q.notIn_str, MM.Q.is_bool, MM.Q.isnot_bool, MM.Q.tst_bool, MM.Q.ev_tst, MM.Q.ev_truth, MM.Q.ev_tru, MM.Q.truO_some, MM.Q.truth_bool, MM.Q.truth_int, MM.Q.truth_none, MM.Q.truth_list, MM.Q.truth_tup, MM.Q.ev_andB, MM.Q.ev_orB, MM.Q.ev_notB, MM.Q.andB_t, MM.Q.andB_f, MM.Q.orB_t, MM.Q.orB_f, MM.Q.ev_notB1, MM.Q.ev_and, MM.Q.ev_or, MM.Q.and_tB, MM.Q.and_fB, MM.Q.or_tB, MM.Q.or_fB, MM.Q.ev_not, MM.Q.ev_not1, MM.Q.notO_some, MM.Q.ev_ifE, MM.Q.ifE_t, MM.Q.ifE_f, MM.Q.ev_nil, MM.Q.ev_cons, MM.Q.ev_cons1, MM.Q.ev_cons2, MM.Q.ev_disp, MM.Q.disp_lst, MM.Q.disp_tup, MM.Q.frees_nil, MM.Q.frees_cons, MM.Q.free_d, MM.Q.free_ref, MM.Q.free_adr, MM.Q.dI_snoc, MM.Q.dI_len, MM.Q.allD_dI, MM.Q.dI_nil, MM.Q.allD_dIs, MM.Q.frees_map, MM.Q.ev_cb, MM.Q.ev_cb1, MM.Q.ev_call, MM.Q.ev_call1, MM.Q.ev_call0, MM.Q.ev_callK, MM.Q.ev_callK1, MM.Q.ev_callK2, MM.Q.ldd_some, MM.Q.laid_nil, MM.Q.laid_k, MM.Q.laid_p, MM.Q.ixO_some, MM.Q.ev_ix, MM.Q.ev_ix1, MM.Q.ev_ix2, MM.Q.ix_list, MM.Q.ix_tup, MM.Q.refS_lst, MM.Q.refS_tup, MM.Q.seq_ref, MM.Q.seq_own, MM.Q.seq_list, MM.Q.seq_tup, MM.Q.ixK_some, MM.Q.ix_ref, MM.Q.ix_own, MM.Q.listO_f, MM.Q.ev_list, MM.Q.at0, MM.Q.at1, MM.Q.at2, MM.Q.at3, MM.Q.at4, MM.Q.ixN0, MM.Q.ixN1, MM.Q.ixN2, MM.Q.ev_oN, MM.Q.ev_oS, MM.Q.oS_int, MM.Q.ev_sl, MM.Q.ev_sl1, MM.Q.ev_sl2, MM.Q.ev_sl3, MM.Q.ev_rev, MM.Q.rev_list, MM.Q.ev_bm, MM.Q.ev_bm1, MM.Q.cBM_t, MM.Q.ev_bm2, MM.Q.buO_some, MM.Q.ev_bu, MM.Q.ev_bu1, MM.Q.cBU_t, MM.Q.ev_bu2, MM.Q.ty_str, MM.Q.tyO_some, MM.Q.ty_ref, MM.Q.ty_own, MM.Q.ty_list, MM.Q.beq_ll, MM.Q.beq_ss, MM.Q.celO_some, MM.Q.cell_ref, MM.Q.cell_own, MM.Q.ev_append, MM.Q.appO_some, MM.Q.ev_extend, MM.Q.extO_some, MM.Q.ev_pop, MM.Q.popO_snoc, MM.Q.ev_ind, MM.Q.ev_ind1, MM.Q.ev_neg, MM.Q.neg_int, MM.Q.ev_iter, MM.Q.ev_it, MM.Q.itO_some, MM.Q.items_list, MM.Q.items_tup, MM.Q.ev_rg1, MM.Q.rg1_int, MM.Q.ev_lc, MM.Q.ev_lc1, MM.Q.ev_lc2, MM.Q.wipe_nil, MM.Q.wipe_cons, MM.Q.ev_seq, MM.Q.seq_nx, MM.Q.seq_rt, MM.Q.seq_exc, MM.Q.seq_bk, MM.Q.seq_ct, MM.Q.ev_asg, MM.Q.ev_asg1, MM.Q.nxO_some, MM.Q.mg_name, MM.Q.mg_nil, MM.Q.mg_consN, MM.Q.mg_tup, MM.Q.ev_expr, MM.Q.ev_expr1, MM.Q.ev_ret, MM.Q.ev_ret1, MM.Q.ev_retN, MM.Q.ev_skip, MM.Q.ev_brk, MM.Q.ev_cnt, MM.Q.ev_if, MM.Q.if_t, MM.Q.if_f, MM.Q.ev_for, MM.Q.ev_for1, MM.Q.ev_fz, MM.Q.fz_own, MM.Q.fzC_some, MM.Q.fzO_some, MM.Q.fz_d, MM.Q.fz_ref, MM.Q.stO_some, MM.Q.ev_st, MM.Q.ev_st1, MM.Q.ev_st2, MM.Q.ev_st3, MM.Q.ev_setIx, MM.Q.siO_some, MM.Q.ev_par, MM.Q.ev_par1, MM.Q.nones_zero, MM.Q.nones_succ, MM.Q.begin_eq,  MM.Q.ev_fn, MM.Q.fin_rt, MM.Q.fin_ref, MM.Q.fin_nx, MM.Q.trim_same, MM.Q.trim_app, MM.Q.ev_len, MM.Q.ev_lst_l, MM.Q.ev_lst_t, MM.Q.ev_lst_r, MM.Q.ev_lst_o, MM.Q.ev_l1, MM.Q.ev_sum, MM.Q.ev_all, MM.Q.ev_any, MM.Q.ev_isi, MM.Q.kind_str, MM.Q.kind_int, MM.Q.kind_bool, MM.Q.kind_none, MM.Q.kind_dict, MM.Q.kind_list, MM.Q.kind_tup, MM.Q.kit_ss, MM.Q.kit_is, MM.Q.kit_bs, MM.Q.kit_ns, MM.Q.kit_ds, MM.Q.kit_ls, MM.Q.kit_ts, MM.Q.ev_repr, MM.Q.ev_join, MM.Q.lenO_some, MM.Q.len_list, MM.Q.len_tup, MM.Q.lnO_some, MM.Q.len_ref, MM.Q.len_own, MM.Q.lisO_some, MM.Q.l1O_some, MM.Q.ints_map, MM.Q.bools_map, MM.Q.strs_map, MM.Q.isiO_some, MM.Q.jnO_some, MM.Q.len_st, MM.Q.add_st, MM.Q.mul_st, MM.Q.ix_st, MM.Q.sl_st, MM.Q.rev_st, MM.Q.eqv_st, MM.Q.st_dec, MM.Q.divmod_int, MM.Q.items_st, MM.Q.allD_mapf, MM.Q.strs_mapf, MM.Q.ints_mapf, MM.Q.bools_mapf, MM.Q.join_ones_some, MM.Q.sl_own, MM.Q.sl_ref, MM.Q.sl_list, MM.Q.slO_some, MM.Q.add_own, MM.Q.add_ref, MM.Q.add_list, MM.Q.catO_some, MM.Q.cutL_map, MM.Q.mg_tupL, MM.Q.ev_ch, MM.Q.ev_ch1, MM.Q.ev_ch2, MM.Q.ch_t, MM.Q.ch_f, MM.Q.ev_ch3, MM.Q.starts_str, MM.Q.ends_str, MM.Q.upper_str, MM.Q.part_str, MM.Q.ev_fmt, MM.Q.ev_fmtR, MM.Q.fmt_st, MM.Q.fmt_int, MM.Q.ev_js_nil, MM.Q.ev_js_cons, MM.Q.ev_js1, MM.Q.ev_js2, MM.Q.jsF_some, MM.Q.js_st, MM.Q.ev_pr_nil, MM.Q.ev_pr_cons, MM.Q.ev_pr1, MM.Q.ev_pr2, MM.Q.ev_pr3, MM.Q.ev_dct, MM.Q.ev_dct1, MM.Q.keys_one, MM.Q.dctF_one, MM.Q.tup_list, MM.Q.tup_tup, MM.Q.tup_st, MM.Q.lst_st, MM.Q.mul_list, MM.Q.mul_tup, MM.Q.ev_popK, MM.Q.in_own, MM.Q.in_ref, MM.Q.in_list, MM.Q.inO_t, MM.Q.inO_f, 
  List.map_cons, List.map_nil, List.length_cons, List.length_nil, List.append_nil, List.nil_append, List.cons_append, List.getElem?_cons_zero, List.getElem?_cons_succ, List.set_cons_zero, List.set_cons_succ, Bool.and_true, Bool.true_and, Option.bind_some, Option.map_some, Nat.reduceAdd, Nat.reduceSub, Nat.add_sub_cancel, Nat.sub_self])
--- imports 
/-! signs, letters, figures -/
abbrev mS (l : List Nat) : Mv := .d (.str (Q.st l))
abbrev pS (l : List Nat) : PyData := .str (Q.st l)
def isG (c : Nat) : Bool := c == 10 || (decide (32 ≤ c) && decide (c ≤ 126) && c != 37)
def sgs : List Nat := (List.range 95).map fun i => if i = 0 then 10 else if i < 6 then i + 31 else i + 32
def lets : List Nat := (List.range 26).map (97 + ·)
def fgs : List Nat := [48, 49, 50, 51, 52, 53, 54, 55, 56, 57, 97, 98, 99, 100, 102, 103, 104, 105, 106, 107, 108, 109, 110, 112, 113, 114, 115, 118, 119, 120, 121, 122]
theorem isG_lt {c : Nat} (h : isG c = true) : c < 127 := by
  unfold isG at h; simp at h; omega
theorem isG_mem {c : Nat} : decide (c ∈ sgs) = isG c := by
  by_cases h : c < 127
  · have : ∀ c < 127, decide (c ∈ sgs) = isG c := by decide +kernel
    exact this c h
  · have h1 : isG c = false := by
      cases e : isG c with
      | false => rfl
      | true => exact absurd (isG_lt e) h
    have h2 : ∀ d ∈ sgs, d < 127 := by decide +kernel
    rw [h1, decide_eq_false fun z => h (h2 c z)]
theorem lit_s : (Str.ofString "\n !\"#$&'()*+,-./0123456789:;<=>?@ABCDEFGHIJKLMNOPQRSTUVWXYZ[\\]^_`abcdefghijklmnopqrstuvwxyz{|}~") = Q.st sgs := by decide +kernel
theorem lit_l : (Str.ofString "abcdefghijklmnopqrstuvwxyz") = Q.st lets := by decide +kernel
theorem lit_f : (Str.ofString "0123456789abcdfghijklmnpqrsvwxyz") = Q.st fgs := by decide +kernel
theorem lit_e : (Str.ofString "") = Q.st [] := by decide +kernel
theorem fgs_len : fgs.length = 32 := by decide
theorem sgs_len : sgs.length = 95 := by decide
theorem lets_len : lets.length = 26 := by decide
theorem lets_good {c : Nat} (h : c ∈ lets) : isG c = true := by
  have : ∀ c ∈ lets, isG c = true := by decide
  exact this c h
theorem fgs_good {c : Nat} (h : c ∈ fgs) : isG c = true := by
  have : ∀ c ∈ fgs, isG c = true := by decide
  exact this c h
theorem isG_ok {c : Nat} (h : isG c = true) : c < 0x110000 := by have := isG_lt h; omega
def wordB (l : List Nat) : Bool := decide (1 ≤ l.length) && (decide (l.length ≤ 8) && l.all fun c => decide (c ∈ lets))
def markB (l : List Nat) : Bool := decide (l.length = 8) && l.all fun c => decide (c ∈ fgs)
theorem notin_one {c : Nat} {z : List Nat} : inStr (Q.st [c]) (Q.st z) = decide (c ∈ z) := by rw [Q.in_sign, Q.cs_st]

end Law
end
section
set_option Elab.async false
set_option linter.all false
set_option maxRecDepth 100000
set_option maxHeartbeats 4000000
set_option autoImplicit false
namespace Law
open PySem PySem.Spec PyProof.Rows L2 MM
local macro_rules | `(tactic| walk_at "mm") => `(tactic| simp (disch := first | assumption | omega | exact MM.Q.shaped_int | exact MM.Q.shaped_nil | exact MM.Q.shaped_ints | exact MM.Q.shaped_bool | (refine of_eq_true (eq_true ?_); first | with_unfolding_all rfl | (simp only [MM.Q.free_d, MM.Q.free_ref, MM.Q.free_adr, MM.Q.frees_nil, MM.Q.frees_cons, MM.Q.frees_map, Bool.and_true, Bool.true_and]; done)) | (simp only [List.length_cons, List.length_nil, List.append_nil, List.map_cons, List.map_nil, List.length_append, List.length_map, List.length_reverse, MM.Q.dI_len, PySem.sizeLine_eq]; omega)) only [MM.Q.bind_ok, MM.Q.bind_exc, MM.Q.go_ok, MM.Q.go_exc, MM.Q.nox_ok, MM.Q.vr_some, MM.Q.ev_var, MM.Q.ev_c, MM.Q.ev_k, MM.Q.frzO_some, MM.Q.tupO_some, MM.Q.tupO_none, MM.Q.bear_val, MM.Q.bear_frz, MM.Q.bear_ref, MM.Q.bear_own, MM.Q.bear_tup, MM.Q.allD_nil, MM.Q.allD_cons, MM.Q.allD_map, MM.Q.bearO_some, MM.Q.ev_bin, MM.Q.ev_bin1, MM.Q.ev_bin2, MM.Q.add_int, MM.Q.sub_int, MM.Q.mul_int, MM.Q.mod_int, MM.Q.fdiv_int, MM.Q.pow_int, MM.Q.intB_int, MM.Q.datO_f, MM.Q.datO_t, MM.Q.data_d, MM.Q.data_ref, MM.Q.data_own, MM.Q.ev_eq_r, MM.Q.ev_eq_o, MM.Q.ev_eq_l, MM.Q.ev_eq_t, MM.Q.ev_eq_i, MM.Q.ev_eq_b, MM.Q.ev_eq_n, MM.Q.ev_eq_st, MM.Q.ev_eq_sf, MM.Q.eqO_some, MM.Q.eqC_t, MM.Q.eqC_f, MM.Q.eqv_nil, MM.Q.eqv_int, MM.Q.eqv_bool, MM.Q.in_str, MM.Q.notIn_str, MM.Q.is_bool, MM.Q.isnot_bool, MM.Q.tst_bool, MM.Q.ev_tst, MM.Q.ev_truth, MM.Q.ev_tru, MM.Q.truO_some, MM.Q.truth_bool, MM.Q.truth_int, MM.Q.truth_none, MM.Q.truth_list, MM.Q.truth_tup, MM.Q.ev_andB, MM.Q.ev_orB, MM.Q.ev_notB, MM.Q.andB_t, MM.Q.andB_f, MM.Q.orB_t, MM.Q.orB_f, MM.Q.ev_notB1, MM.Q.ev_and, MM.Q.ev_or, MM.Q.and_tB, MM.Q.and_fB, MM.Q.or_tB, MM.Q.or_fB, MM.Q.ev_not, MM.Q.ev_not1, MM.Q.notO_some, MM.Q.ev_ifE, MM.Q.ifE_t, MM.Q.ifE_f, MM.Q.ev_nil, MM.Q.ev_cons, MM.Q.ev_cons1, MM.Q.ev_cons2, MM.Q.ev_disp, MM.Q.disp_lst, MM.Q.disp_tup, MM.Q.frees_nil, MM.Q.frees_cons, MM.Q.free_d, MM.Q.free_ref, MM.Q.free_adr, MM.Q.dI_snoc, MM.Q.dI_len, MM.Q.allD_dI, MM.Q.dI_nil, MM.Q.allD_dIs, MM.Q.frees_map, MM.Q.ev_cb, MM.Q.ev_cb1, MM.Q.ev_call, MM.Q.ev_call1, MM.Q.ev_call0, MM.Q.ev_callK, MM.Q.ev_callK1, MM.Q.ev_callK2, MM.Q.ldd_some, MM.Q.laid_nil, MM.Q.laid_k, MM.Q.laid_p, MM.Q.ixO_some, MM.Q.ev_ix, MM.Q.ev_ix1, MM.Q.ev_ix2, MM.Q.ix_list, MM.Q.ix_tup, MM.Q.refS_lst, MM.Q.refS_tup, MM.Q.seq_ref, MM.Q.seq_own, MM.Q.seq_list, MM.Q.seq_tup, MM.Q.ixK_some, MM.Q.ix_ref, MM.Q.ix_own, MM.Q.listO_f, MM.Q.ev_list, MM.Q.at0, MM.Q.at1, MM.Q.at2, MM.Q.at3, MM.Q.at4, MM.Q.ixN0, MM.Q.ixN1, MM.Q.ixN2, MM.Q.ev_oN, MM.Q.ev_oS, MM.Q.oS_int, MM.Q.ev_sl, MM.Q.ev_sl1, MM.Q.ev_sl2, MM.Q.ev_sl3, MM.Q.ev_rev, MM.Q.rev_list, MM.Q.ev_bm, MM.Q.ev_bm1, MM.Q.cBM_t, MM.Q.ev_bm2, MM.Q.buO_some, MM.Q.ev_bu, MM.Q.ev_bu1, MM.Q.cBU_t, MM.Q.ev_bu2, MM.Q.ty_str, MM.Q.tyO_some, MM.Q.ty_ref, MM.Q.ty_own, MM.Q.ty_list, MM.Q.beq_ll, MM.Q.beq_ss, MM.Q.celO_some, MM.Q.cell_ref, MM.Q.cell_own, MM.Q.ev_append, MM.Q.appO_some, MM.Q.ev_extend, MM.Q.extO_some, MM.Q.ev_pop, MM.Q.popO_snoc, MM.Q.ev_ind, MM.Q.ev_ind1, MM.Q.ev_neg, MM.Q.neg_int, MM.Q.ev_iter, MM.Q.ev_it, MM.Q.itO_some, MM.Q.items_list, MM.Q.items_tup, MM.Q.ev_rg1, MM.Q.rg1_int, MM.Q.ev_lc, MM.Q.ev_lc1, MM.Q.ev_lc2, MM.Q.wipe_nil, MM.Q.wipe_cons, MM.Q.ev_seq, MM.Q.seq_nx, MM.Q.seq_rt, MM.Q.seq_exc, MM.Q.seq_bk, MM.Q.seq_ct, MM.Q.ev_asg, MM.Q.ev_asg1, MM.Q.nxO_some, MM.Q.mg_name, MM.Q.mg_nil, MM.Q.mg_consN, MM.Q.mg_tup, MM.Q.ev_expr, MM.Q.ev_expr1, MM.Q.ev_ret, MM.Q.ev_ret1, MM.Q.ev_retN, MM.Q.ev_skip, MM.Q.ev_brk, MM.Q.ev_cnt, MM.Q.ev_if, MM.Q.if_t, MM.Q.if_f, MM.Q.ev_for, MM.Q.ev_for1, MM.Q.ev_fz, MM.Q.fz_own, MM.Q.fzC_some, MM.Q.fzO_some, MM.Q.fz_d, MM.Q.fz_ref, MM.Q.stO_some, MM.Q.ev_st, MM.Q.ev_st1, MM.Q.ev_st2, MM.Q.ev_st3, MM.Q.ev_setIx, MM.Q.siO_some, MM.Q.ev_par, MM.Q.ev_par1, MM.Q.nones_zero, MM.Q.nones_succ, MM.Q.begin_eq,  MM.Q.ev_fn, MM.Q.fin_rt, MM.Q.fin_ref, MM.Q.fin_nx, MM.Q.trim_same, MM.Q.trim_app, MM.Q.ev_len, MM.Q.ev_lst_l, MM.Q.ev_lst_t, MM.Q.ev_lst_r, MM.Q.ev_lst_o, MM.Q.ev_l1, MM.Q.ev_sum, MM.Q.ev_all, MM.Q.ev_any, MM.Q.ev_isi, MM.Q.kind_str, MM.Q.kind_int, MM.Q.kind_bool, MM.Q.kind_none, MM.Q.kind_dict, MM.Q.kind_list, MM.Q.kind_tup, MM.Q.kit_ss, MM.Q.kit_is, MM.Q.kit_bs, MM.Q.kit_ns, MM.Q.kit_ds, MM.Q.kit_ls, MM.Q.kit_ts, MM.Q.ev_repr, MM.Q.ev_join, MM.Q.lenO_some, MM.Q.len_list, MM.Q.len_tup, MM.Q.lnO_some, MM.Q.len_ref, MM.Q.len_own, MM.Q.lisO_some, MM.Q.l1O_some, MM.Q.ints_map, MM.Q.bools_map, MM.Q.strs_map, MM.Q.isiO_some, MM.Q.jnO_some, MM.Q.len_st, MM.Q.add_st, MM.Q.mul_st, MM.Q.ix_st, MM.Q.sl_st, MM.Q.rev_st, MM.Q.eqv_st, MM.Q.st_dec, MM.Q.divmod_int, MM.Q.items_st, MM.Q.allD_mapf, MM.Q.strs_mapf, MM.Q.ints_mapf, MM.Q.bools_mapf, MM.Q.join_ones_some, MM.Q.sl_own, MM.Q.sl_ref, MM.Q.sl_list, MM.Q.slO_some, MM.Q.add_own, MM.Q.add_ref, MM.Q.add_list, MM.Q.catO_some, MM.Q.cutL_map, MM.Q.mg_tupL, MM.Q.ev_ch, MM.Q.ev_ch1, MM.Q.ev_ch2, MM.Q.ch_t, MM.Q.ch_f, MM.Q.ev_ch3, MM.Q.starts_str, MM.Q.ends_str, MM.Q.upper_str, MM.Q.part_str, MM.Q.ev_fmt, MM.Q.ev_fmtR, MM.Q.fmt_st, MM.Q.fmt_int, MM.Q.ev_js_nil, MM.Q.ev_js_cons, MM.Q.ev_js1, MM.Q.ev_js2, MM.Q.jsF_some, MM.Q.js_st, MM.Q.ev_pr_nil, MM.Q.ev_pr_cons, MM.Q.ev_pr1, MM.Q.ev_pr2, MM.Q.ev_pr3, MM.Q.ev_dct, MM.Q.ev_dct1, MM.Q.keys_one, MM.Q.dctF_one, MM.Q.tup_list, MM.Q.tup_tup, MM.Q.tup_st, MM.Q.lst_st, MM.Q.mul_list, MM.Q.mul_tup, MM.Q.ev_popK, MM.Q.in_own, MM.Q.in_ref, MM.Q.in_list, MM.Q.inO_t, MM.Q.inO_f, 
  List.map_cons, List.map_nil, List.length_cons, List.length_nil, List.append_nil, List.nil_append, List.cons_append, List.getElem?_cons_zero, List.getElem?_cons_succ, List.set_cons_zero, List.set_cons_succ, Bool.and_true, Bool.true_and, Option.bind_some, Option.map_some, Nat.reduceAdd, Nat.reduceSub, Nat.add_sub_cancel, Nat.sub_self])
--- imports sig
/-! good texts -/
structure Gd (n : Nat) (l : List Nat) : Prop where
  len : l.length ≤ n
  all : ∀ c ∈ l, isG c = true
theorem Gd.mono {n m : Nat} {l : List Nat} (h : Gd n l) (e : n ≤ m) : Gd m l := ⟨Nat.le_trans h.len e, h.all⟩
theorem Gd.app {n m : Nat} {a b : List Nat} (h : Gd n a) (k : Gd m b) : Gd (n + m) (a ++ b) := ⟨by rw [List.length_append]; have := h.len; have := k.len; omega, fun c hc => (List.mem_append.mp hc).elim (h.all c) (k.all c)⟩
theorem Gd.cut {n : Nat} {a : List Nat} {lo hi : Option Int} (h : Gd n a) : Gd n (Q.cutL a lo hi) := ⟨Nat.le_trans Q.cutL_len h.len, fun c hc => h.all c (Q.cutL_mem hc)⟩
theorem Gd.rev {n : Nat} {a : List Nat} (h : Gd n a) : Gd n a.reverse := ⟨by rw [List.length_reverse]; exact h.len, fun c hc => h.all c (List.mem_reverse.mp hc)⟩
theorem Gd.rep {n k : Nat} {a : List Nat} (h : Gd n a) : Gd (k * n) (List.replicate k a).flatten := ⟨by rw [Q.rep_len]; exact Nat.mul_le_mul_left k h.len, fun c hc => by
  obtain ⟨l, hl, hc⟩ := List.mem_flatten.mp hc
  rw [(List.mem_replicate.mp hl).2] at hc
  exact h.all c hc⟩
theorem Gd.one {c : Nat} (h : isG c = true) : Gd 1 [c] := ⟨Nat.le_refl _, fun d hd => by rw [List.mem_singleton.mp hd]; exact h⟩
theorem Gd.nil : Gd 0 [] := ⟨Nat.le_refl _, fun d hd => by cases hd⟩
theorem Gd.of {l : List Nat} (h : l.all isG = true) : Gd l.length l := ⟨Nat.le_refl _, List.all_eq_true.mp h⟩
theorem Gd.ok {n : Nat} {l : List Nat} (h : Gd n l) : ∀ c ∈ l, c < 0x110000 := fun c hc => isG_ok (h.all c hc)
theorem Gd.shaped {n : Nat} {l : List Nat} (h : Gd n l) : SeqAt.shaped (.str (Q.st l)) = true := Q.ok_st h.ok
theorem Gd.upper {n : Nat} {l : List Nat} (h : Gd n l) : Txt.upper (Q.st l) = Q.st (l.map PyProof.Rows.up1) := Q.upper_st fun c hc => by have := isG_lt (h.all c hc); omega
theorem up_good {c : Nat} (h : isG c = true) : isG (PyProof.Rows.up1 c) = true := by
  have : ∀ c < 127, isG c = true → isG (PyProof.Rows.up1 c) = true := by decide +kernel
  exact this c (isG_lt h) h
theorem Gd.up {n : Nat} {l : List Nat} (h : Gd n l) : Gd n (l.map PyProof.Rows.up1) := ⟨by rw [List.length_map]; exact h.len, fun c hc => by
  obtain ⟨d, hd, rfl⟩ := List.mem_map.mp hc
  exact up_good (h.all d hd)⟩
theorem word_good {l : List Nat} (h : wordB l = true) : Gd 8 l := by
  unfold wordB at h
  simp only [Bool.and_eq_true, decide_eq_true_eq, List.all_eq_true] at h
  exact ⟨h.2.1, fun c hc => lets_good (h.2.2 c hc)⟩
theorem mark_good {l : List Nat} (h : markB l = true) : Gd 8 l := by
  unfold markB at h
  simp only [Bool.and_eq_true, decide_eq_true_eq, List.all_eq_true] at h
  exact ⟨Nat.le_of_eq h.1, fun c hc => fgs_good (h.2 c hc)⟩
theorem Gd.gup {n : Nat} {l : List Nat} {S : Sg} (h : Gd n l) (hn : n ≤ 1000000) : gUpper S (.d (.str (Q.st l))) [] = some (.val (.d (.str (Q.st (l.map PyProof.Rows.up1))))) := by
  rw [Q.upper_str (by rw [Q.st_len]; have := h.len; omega), h.upper]

end Law
end
section
set_option Elab.async false
set_option linter.all false
set_option maxRecDepth 100000
set_option maxHeartbeats 4000000
set_option autoImplicit false
namespace Law
open PySem PySem.Spec PyProof.Rows L2 MM
local macro_rules | `(tactic| walk_at "mm") => `(tactic| simp (disch := first | assumption | omega | exact MM.Q.shaped_int | exact MM.Q.shaped_nil | exact MM.Q.shaped_ints | exact MM.Q.shaped_bool | (refine of_eq_true (eq_true ?_); first | with_unfolding_all rfl | (simp only [MM.Q.free_d, MM.Q.free_ref, MM.Q.free_adr, MM.Q.frees_nil, MM.Q.frees_cons, MM.Q.frees_map, Bool.and_true, Bool.true_and]; done)) | (simp only [List.length_cons, List.length_nil, List.append_nil, List.map_cons, List.map_nil, List.length_append, List.length_map, List.length_reverse, MM.Q.dI_len, PySem.sizeLine_eq]; omega)) only [MM.Q.bind_ok, MM.Q.bind_exc, MM.Q.go_ok, MM.Q.go_exc, MM.Q.nox_ok, MM.Q.vr_some, MM.Q.ev_var, MM.Q.ev_c, MM.Q.ev_k, MM.Q.frzO_some, MM.Q.tupO_some, MM.Q.tupO_none, MM.Q.bear_val, MM.Q.bear_frz, MM.Q.bear_ref, MM.Q.bear_own, MM.Q.bear_tup, MM.Q.allD_nil, MM.Q.allD_cons, MM.Q.allD_map, MM.Q.bearO_some, MM.Q.ev_bin, MM.Q.ev_bin1, MM.Q.ev_bin2, MM.Q.add_int, MM.Q.sub_int, MM.Q.mul_int, MM.Q.mod_int, MM.Q.fdiv_int, MM.Q.pow_int, MM.Q.intB_int, MM.Q.datO_f, MM.Q.datO_t, MM.Q.data_d, MM.Q.data_ref, MM.Q.data_own, MM.Q.ev_eq_r, MM.Q.ev_eq_o, MM.Q.ev_eq_l, MM.Q.ev_eq_t, MM.Q.ev_eq_i, MM.Q.ev_eq_b, MM.Q.ev_eq_n, MM.Q.ev_eq_st, MM.Q.ev_eq_sf, MM.Q.eqO_some, MM.Q.eqC_t, MM.Q.eqC_f, MM.Q.eqv_nil, MM.Q.eqv_int, MM.Q.eqv_bool, MM.Q.in_str, MM.Q.notIn_str, MM.Q.is_bool, MM.Q.isnot_bool, MM.Q.tst_bool, MM.Q.ev_tst, MM.Q.ev_truth, MM.Q.ev_tru, MM.Q.truO_some, MM.Q.truth_bool, MM.Q.truth_int, MM.Q.truth_none, MM.Q.truth_list, MM.Q.truth_tup, MM.Q.ev_andB, MM.Q.ev_orB, MM.Q.ev_notB, MM.Q.andB_t, MM.Q.andB_f, MM.Q.orB_t, MM.Q.orB_f, MM.Q.ev_notB1, MM.Q.ev_and, MM.Q.ev_or, MM.Q.and_tB, MM.Q.and_fB, MM.Q.or_tB, MM.Q.or_fB, MM.Q.ev_not, MM.Q.ev_not1, MM.Q.notO_some, MM.Q.ev_ifE, MM.Q.ifE_t, MM.Q.ifE_f, MM.Q.ev_nil, MM.Q.ev_cons, MM.Q.ev_cons1, MM.Q.ev_cons2, MM.Q.ev_disp, MM.Q.disp_lst, MM.Q.disp_tup, MM.Q.frees_nil, MM.Q.frees_cons, MM.Q.free_d, MM.Q.free_ref, MM.Q.free_adr, MM.Q.dI_snoc, MM.Q.dI_len, MM.Q.allD_dI, MM.Q.dI_nil, MM.Q.allD_dIs, MM.Q.frees_map, MM.Q.ev_cb, MM.Q.ev_cb1, MM.Q.ev_call, MM.Q.ev_call1, MM.Q.ev_call0, MM.Q.ev_callK, MM.Q.ev_callK1, MM.Q.ev_callK2, MM.Q.ldd_some, MM.Q.laid_nil, MM.Q.laid_k, MM.Q.laid_p, MM.Q.ixO_some, MM.Q.ev_ix, MM.Q.ev_ix1, MM.Q.ev_ix2, MM.Q.ix_list, MM.Q.ix_tup, MM.Q.refS_lst, MM.Q.refS_tup, MM.Q.seq_ref, MM.Q.seq_own, MM.Q.seq_list, MM.Q.seq_tup, MM.Q.ixK_some, MM.Q.ix_ref, MM.Q.ix_own, MM.Q.listO_f, MM.Q.ev_list, MM.Q.at0, MM.Q.at1, MM.Q.at2, MM.Q.at3, MM.Q.at4, MM.Q.ixN0, MM.Q.ixN1, MM.Q.ixN2, MM.Q.ev_oN, MM.Q.ev_oS, MM.Q.oS_int, MM.Q.ev_sl, MM.Q.ev_sl1, MM.Q.ev_sl2, MM.Q.ev_sl3, MM.Q.ev_rev, MM.Q.rev_list, MM.Q.ev_bm, MM.Q.ev_bm1, MM.Q.cBM_t, MM.Q.ev_bm2, MM.Q.buO_some, MM.Q.ev_bu, MM.Q.ev_bu1, MM.Q.cBU_t, MM.Q.ev_bu2, MM.Q.ty_str, MM.Q.tyO_some, MM.Q.ty_ref, MM.Q.ty_own, MM.Q.ty_list, MM.Q.beq_ll, MM.Q.beq_ss, MM.Q.celO_some, MM.Q.cell_ref, MM.Q.cell_own, MM.Q.ev_append, MM.Q.appO_some, MM.Q.ev_extend, MM.Q.extO_some, MM.Q.ev_pop, MM.Q.popO_snoc, MM.Q.ev_ind, MM.Q.ev_ind1, MM.Q.ev_neg, MM.Q.neg_int, MM.Q.ev_iter, MM.Q.ev_it, MM.Q.itO_some, MM.Q.items_list, MM.Q.items_tup, MM.Q.ev_rg1, MM.Q.rg1_int, MM.Q.ev_lc, MM.Q.ev_lc1, MM.Q.ev_lc2, MM.Q.wipe_nil, MM.Q.wipe_cons, MM.Q.ev_seq, MM.Q.seq_nx, MM.Q.seq_rt, MM.Q.seq_exc, MM.Q.seq_bk, MM.Q.seq_ct, MM.Q.ev_asg, MM.Q.ev_asg1, MM.Q.nxO_some, MM.Q.mg_name, MM.Q.mg_nil, MM.Q.mg_consN, MM.Q.mg_tup, MM.Q.ev_expr, MM.Q.ev_expr1, MM.Q.ev_ret, MM.Q.ev_ret1, MM.Q.ev_retN, MM.Q.ev_skip, MM.Q.ev_brk, MM.Q.ev_cnt, MM.Q.ev_if, MM.Q.if_t, MM.Q.if_f, MM.Q.ev_for, MM.Q.ev_for1, MM.Q.ev_fz, MM.Q.fz_own, MM.Q.fzC_some, MM.Q.fzO_some, MM.Q.fz_d, MM.Q.fz_ref, MM.Q.stO_some, MM.Q.ev_st, MM.Q.ev_st1, MM.Q.ev_st2, MM.Q.ev_st3, MM.Q.ev_setIx, MM.Q.siO_some, MM.Q.ev_par, MM.Q.ev_par1, MM.Q.nones_zero, MM.Q.nones_succ, MM.Q.begin_eq,  MM.Q.ev_fn, MM.Q.fin_rt, MM.Q.fin_ref, MM.Q.fin_nx, MM.Q.trim_same, MM.Q.trim_app, MM.Q.ev_len, MM.Q.ev_lst_l, MM.Q.ev_lst_t, MM.Q.ev_lst_r, MM.Q.ev_lst_o, MM.Q.ev_l1, MM.Q.ev_sum, MM.Q.ev_all, MM.Q.ev_any, MM.Q.ev_isi, MM.Q.kind_str, MM.Q.kind_int, MM.Q.kind_bool, MM.Q.kind_none, MM.Q.kind_dict, MM.Q.kind_list, MM.Q.kind_tup, MM.Q.kit_ss, MM.Q.kit_is, MM.Q.kit_bs, MM.Q.kit_ns, MM.Q.kit_ds, MM.Q.kit_ls, MM.Q.kit_ts, MM.Q.ev_repr, MM.Q.ev_join, MM.Q.lenO_some, MM.Q.len_list, MM.Q.len_tup, MM.Q.lnO_some, MM.Q.len_ref, MM.Q.len_own, MM.Q.lisO_some, MM.Q.l1O_some, MM.Q.ints_map, MM.Q.bools_map, MM.Q.strs_map, MM.Q.isiO_some, MM.Q.jnO_some, MM.Q.len_st, MM.Q.add_st, MM.Q.mul_st, MM.Q.ix_st, MM.Q.sl_st, MM.Q.rev_st, MM.Q.eqv_st, MM.Q.st_dec, MM.Q.divmod_int, MM.Q.items_st, MM.Q.allD_mapf, MM.Q.strs_mapf, MM.Q.ints_mapf, MM.Q.bools_mapf, MM.Q.join_ones_some, MM.Q.sl_own, MM.Q.sl_ref, MM.Q.sl_list, MM.Q.slO_some, MM.Q.add_own, MM.Q.add_ref, MM.Q.add_list, MM.Q.catO_some, MM.Q.cutL_map, MM.Q.mg_tupL, MM.Q.ev_ch, MM.Q.ev_ch1, MM.Q.ev_ch2, MM.Q.ch_t, MM.Q.ch_f, MM.Q.ev_ch3, MM.Q.starts_str, MM.Q.ends_str, MM.Q.upper_str, MM.Q.part_str, MM.Q.ev_fmt, MM.Q.ev_fmtR, MM.Q.fmt_st, MM.Q.fmt_int, MM.Q.ev_js_nil, MM.Q.ev_js_cons, MM.Q.ev_js1, MM.Q.ev_js2, MM.Q.jsF_some, MM.Q.js_st, MM.Q.ev_pr_nil, MM.Q.ev_pr_cons, MM.Q.ev_pr1, MM.Q.ev_pr2, MM.Q.ev_pr3, MM.Q.ev_dct, MM.Q.ev_dct1, MM.Q.keys_one, MM.Q.dctF_one, MM.Q.tup_list, MM.Q.tup_tup, MM.Q.tup_st, MM.Q.lst_st, MM.Q.mul_list, MM.Q.mul_tup, MM.Q.ev_popK, MM.Q.in_own, MM.Q.in_ref, MM.Q.in_list, MM.Q.inO_t, MM.Q.inO_f, 
  List.map_cons, List.map_nil, List.length_cons, List.length_nil, List.append_nil, List.nil_append, List.cons_append, List.getElem?_cons_zero, List.getElem?_cons_succ, List.set_cons_zero, List.set_cons_succ, Bool.and_true, Bool.true_and, Option.bind_some, Option.map_some, Nat.reduceAdd, Nat.reduceSub, Nat.add_sub_cancel, Nat.sub_self])
--- imports sig good
/-! what can be shown -/
mutual
def rp : PyData → Bool
  | .none | .bool _ => true
  | .int i => decide (i.natAbs < 10 ^ 45)
  | .str x => x.cps.toList.all fun c => decide (c < 0x110000)
  | .list xs | .tuple xs => rps xs
  | .dict _ => false
def rps : List PyData → Bool
  | [] => true
  | x :: xs => rp x && rps xs
end
theorem rp_none : rp .none = true := rfl
theorem rp_bool {b : Bool} : rp (.bool b) = true := rfl
theorem rp_int {i : Int} (h : i.natAbs < 10 ^ 45) : rp (.int i) = true := decide_eq_true h
theorem rp_st {n : Nat} {l : List Nat} (h : Gd n l) : rp (.str (Q.st l)) = true := by
  show (Q.cs (Q.st l)).all _ = true
  rw [Q.cs_st]
  exact List.all_eq_true.mpr fun c hc => decide_eq_true (h.ok c hc)
theorem rp_list {xs : List PyData} : rp (.list xs) = rps xs := by simp only [rp]
theorem rp_tup {xs : List PyData} : rp (.tuple xs) = rps xs := by simp only [rp]
theorem rps_nil : rps [] = true := by simp only [rps]
theorem rps_cons {x : PyData} {xs : List PyData} : rps (x :: xs) = (rp x && rps xs) := by simp only [rps]
theorem int_short {i : Int} (h : i.natAbs < 10 ^ 45) : (PyData.shown (.int i)).length ≤ 46 := by
  have e := PySem.int_text_length_le10 (k := 45) (by decide) h
  show (Str.ofString (toString i)).length ≤ 46
  rw [PyProof.Rows.ofString_len]; exact e
mutual
theorem rp_lay : ∀ {d : PyData}, rp d = true → d.canLay0 = true ∧ d.showable = true ∧ d.leavesShort 60 = true
  | .none, _ => ⟨rfl, rfl, rfl⟩
  | .bool _, _ => ⟨rfl, rfl, rfl⟩
  | .int i, h => by
    have h' : i.natAbs < 10 ^ 45 := of_decide_eq_true h
    refine ⟨rfl, decide_eq_true ?_, decide_eq_true (Nat.le_trans (int_short h') (by decide))⟩
    have : i.natAbs < 2 ^ 1920 := Nat.lt_trans h' (by decide +kernel)
    by_cases e : i.natAbs = 0
    · rw [e]; decide
    · exact (Nat.log2_lt e).mpr this
  | .str x, h => by
    have h' : ∀ c ∈ x.cps.toList, c < 0x110000 := fun c hc => of_decide_eq_true (List.all_eq_true.mp h c hc)
    refine ⟨by simp only [PyData.canLay0]; exact Q.strOk_of h', rfl, ?_⟩
    simp only [PyData.leavesShort]
    exact List.all_eq_true.mpr fun c hc => decide_eq_true (by have := h' c hc; omega)
  | .list xs, h => by
    rw [rp_list] at h
    have := rps_lay h
    simp only [PyData.canLay0, PyData.showable, PyData.leavesShort]
    exact this
  | .tuple xs, h => by
    rw [rp_tup] at h
    have := rps_lay h
    simp only [PyData.canLay0, PyData.showable, PyData.leavesShort]
    exact this
  | .dict _, h => by simp [rp] at h
theorem rps_lay : ∀ {ds : List PyData}, rps ds = true → PyData.canLayAll0 ds = true ∧ PyData.showableAll ds = true ∧ PyData.leavesShortAll 60 ds = true
  | [], _ => ⟨rfl, rfl, rfl⟩
  | x :: xs, h => by
    rw [rps_cons, Bool.and_eq_true] at h
    have h1 := rp_lay h.1
    have h2 := rps_lay h.2
    simp only [PyData.canLayAll0, PyData.showableAll, PyData.leavesShortAll, h1, h2, Bool.and_self, and_self]
end
theorem rp_shaped {d : PyData} (h : rp d = true) (h2 : d.depth ≤ 64) : SeqAt.shaped d = true := by
  unfold SeqAt.shaped
  rw [(rp_lay h).1, decide_eq_true h2]; rfl
theorem rp_fits {d : PyData} (h : rp d = true) (h3 : d.bulk ≤ 200000) : d.shown.length ≤ sizeLine := by
  have h1 := PyData.shown_le_bulk 60 (by decide) d (rp_lay h).2.2
  rw [PySem.sizeLine_eq]
  have : (60 + 2) * d.bulk ≤ 62 * 200000 := Nat.mul_le_mul_left _ h3
  omega
theorem rp_shows {d : PyData} (h : rp d = true) (h2 : d.depth ≤ 64) : shows d = true := by
  cases d with
  | dict _ => simp [rp] at h
  | _ => exact rp_shaped h h2
/-- the text of what can be shown -/
theorem rp_rep {d : PyData} (h : rp d = true) (h2 : d.depth ≤ 64) (h3 : d.bulk ≤ 200000) : Q.repO (some d) = some (.val (.d (.str d.shown))) := Q.repO_some (rp_shows h h2) (rp_lay h).2.1 (rp_fits h h3)
theorem bulk_st {l : List Nat} : (PyData.str (Q.st l)).bulk = l.length := by simp [PyData.bulk, Q.st]
theorem bulk_list {xs : List PyData} : (PyData.list xs).bulk = PyData.bulkAll xs := by simp only [PyData.bulk]
theorem bulk_tup {xs : List PyData} : (PyData.tuple xs).bulk = PyData.bulkAll xs := by simp only [PyData.bulk]
theorem bulk_int {i : Int} : (PyData.int i).bulk = 0 := by simp only [PyData.bulk]
theorem bulk_bool {i : Bool} : (PyData.bool i).bulk = 0 := by simp only [PyData.bulk]
theorem bulk_none : (PyData.none).bulk = 0 := by simp only [PyData.bulk]
theorem bulk_nil : PyData.bulkAll [] = 0 := by simp only [PyData.bulkAll]
theorem bulk_cons {x : PyData} {xs : List PyData} : PyData.bulkAll (x :: xs) = x.bulk + 1 + PyData.bulkAll xs := by simp only [PyData.bulkAll]
theorem depth_st {l : Str} : (PyData.str l).depth = 0 := by simp only [PyData.depth]
theorem depth_int {l : Int} : (PyData.int l).depth = 0 := by simp only [PyData.depth]
theorem depth_bool {l : Bool} : (PyData.bool l).depth = 0 := by simp only [PyData.depth]
theorem depth_none : (PyData.none).depth = 0 := by simp only [PyData.depth]
theorem depth_list {xs : List PyData} : (PyData.list xs).depth = PyData.depthAll xs + 1 := by simp only [PyData.depth]
theorem depth_tup {xs : List PyData} : (PyData.tuple xs).depth = PyData.depthAll xs + 1 := by simp only [PyData.depth]
theorem depth_nil : PyData.depthAll [] = 0 := by simp only [PyData.depthAll]
theorem depth_cons {x : PyData} {xs : List PyData} : PyData.depthAll (x :: xs) = max x.depth (PyData.depthAll xs) := by simp only [PyData.depthAll]
theorem rps_ones {l : List Nat} (h : ∀ c ∈ l, isG c = true) : rps (l.map fun c => PyData.str (Q.st [c])) = true := by
  induction l with
  | nil => exact rps_nil
  | cons a r ih =>
    rw [List.map_cons, rps_cons, rp_st (Gd.one (h a (List.mem_cons_self ..))), ih fun c hc => h c (List.mem_cons_of_mem _ hc)]; rfl
theorem bulk_ones {l : List Nat} : PyData.bulkAll (l.map fun c => PyData.str (Q.st [c])) = 2 * l.length := by
  induction l with
  | nil => exact bulk_nil
  | cons a r ih => rw [List.map_cons, bulk_cons, ih, bulk_st]; simp only [List.length_cons, List.length_nil]; omega
theorem depth_ones {l : List Nat} : PyData.depthAll (l.map fun c => PyData.str (Q.st [c])) = 0 := by
  induction l with
  | nil => exact depth_nil
  | cons a r ih => rw [List.map_cons, depth_cons, ih, depth_st]; rfl

end Law
end
section
set_option Elab.async false
set_option linter.all false
set_option maxRecDepth 100000
set_option maxHeartbeats 4000000
set_option autoImplicit false
namespace Law
open PySem PySem.Spec PyProof.Rows L2 MM
local macro_rules | `(tactic| walk_at "mm") => `(tactic| simp (disch := first | assumption | omega | exact MM.Q.shaped_int | exact MM.Q.shaped_nil | exact MM.Q.shaped_ints | exact MM.Q.shaped_bool | (refine of_eq_true (eq_true ?_); first | with_unfolding_all rfl | (simp only [MM.Q.free_d, MM.Q.free_ref, MM.Q.free_adr, MM.Q.frees_nil, MM.Q.frees_cons, MM.Q.frees_map, Bool.and_true, Bool.true_and]; done)) | (simp only [List.length_cons, List.length_nil, List.append_nil, List.map_cons, List.map_nil, List.length_append, List.length_map, List.length_reverse, MM.Q.dI_len, PySem.sizeLine_eq]; omega)) only [MM.Q.bind_ok, MM.Q.bind_exc, MM.Q.go_ok, MM.Q.go_exc, MM.Q.nox_ok, MM.Q.vr_some, MM.Q.ev_var, MM.Q.ev_c, MM.Q.ev_k, MM.Q.frzO_some, MM.Q.tupO_some, MM.Q.tupO_none, MM.Q.bear_val, MM.Q.bear_frz, MM.Q.bear_ref, MM.Q.bear_own, MM.Q.bear_tup, MM.Q.allD_nil, MM.Q.allD_cons, MM.Q.allD_map, MM.Q.bearO_some, MM.Q.ev_bin, MM.Q.ev_bin1, MM.Q.ev_bin2, MM.Q.add_int, MM.Q.sub_int, MM.Q.mul_int, MM.Q.mod_int, MM.Q.fdiv_int, MM.Q.pow_int, MM.Q.intB_int, MM.Q.datO_f, MM.Q.datO_t, MM.Q.data_d, MM.Q.data_ref, MM.Q.data_own, MM.Q.ev_eq_r, MM.Q.ev_eq_o, MM.Q.ev_eq_l, MM.Q.ev_eq_t, MM.Q.ev_eq_i, MM.Q.ev_eq_b, MM.Q.ev_eq_n, MM.Q.ev_eq_st, MM.Q.ev_eq_sf, MM.Q.eqO_some, MM.Q.eqC_t, MM.Q.eqC_f, MM.Q.eqv_nil, MM.Q.eqv_int, MM.Q.eqv_bool, MM.Q.in_str, MM.Q.notIn_str, MM.Q.is_bool, MM.Q.isnot_bool, MM.Q.tst_bool, MM.Q.ev_tst, MM.Q.ev_truth, MM.Q.ev_tru, MM.Q.truO_some, MM.Q.truth_bool, MM.Q.truth_int, MM.Q.truth_none, MM.Q.truth_list, MM.Q.truth_tup, MM.Q.ev_andB, MM.Q.ev_orB, MM.Q.ev_notB, MM.Q.andB_t, MM.Q.andB_f, MM.Q.orB_t, MM.Q.orB_f, MM.Q.ev_notB1, MM.Q.ev_and, MM.Q.ev_or, MM.Q.and_tB, MM.Q.and_fB, MM.Q.or_tB, MM.Q.or_fB, MM.Q.ev_not, MM.Q.ev_not1, MM.Q.notO_some, MM.Q.ev_ifE, MM.Q.ifE_t, MM.Q.ifE_f, MM.Q.ev_nil, MM.Q.ev_cons, MM.Q.ev_cons1, MM.Q.ev_cons2, MM.Q.ev_disp, MM.Q.disp_lst, MM.Q.disp_tup, MM.Q.frees_nil, MM.Q.frees_cons, MM.Q.free_d, MM.Q.free_ref, MM.Q.free_adr, MM.Q.dI_snoc, MM.Q.dI_len, MM.Q.allD_dI, MM.Q.dI_nil, MM.Q.allD_dIs, MM.Q.frees_map, MM.Q.ev_cb, MM.Q.ev_cb1, MM.Q.ev_call, MM.Q.ev_call1, MM.Q.ev_call0, MM.Q.ev_callK, MM.Q.ev_callK1, MM.Q.ev_callK2, MM.Q.ldd_some, MM.Q.laid_nil, MM.Q.laid_k, MM.Q.laid_p, MM.Q.ixO_some, MM.Q.ev_ix, MM.Q.ev_ix1, MM.Q.ev_ix2, MM.Q.ix_list, MM.Q.ix_tup, MM.Q.refS_lst, MM.Q.refS_tup, MM.Q.seq_ref, MM.Q.seq_own, MM.Q.seq_list, MM.Q.seq_tup, MM.Q.ixK_some, MM.Q.ix_ref, MM.Q.ix_own, MM.Q.listO_f, MM.Q.ev_list, MM.Q.at0, MM.Q.at1, MM.Q.at2, MM.Q.at3, MM.Q.at4, MM.Q.ixN0, MM.Q.ixN1, MM.Q.ixN2, MM.Q.ev_oN, MM.Q.ev_oS, MM.Q.oS_int, MM.Q.ev_sl, MM.Q.ev_sl1, MM.Q.ev_sl2, MM.Q.ev_sl3, MM.Q.ev_rev, MM.Q.rev_list, MM.Q.ev_bm, MM.Q.ev_bm1, MM.Q.cBM_t, MM.Q.ev_bm2, MM.Q.buO_some, MM.Q.ev_bu, MM.Q.ev_bu1, MM.Q.cBU_t, MM.Q.ev_bu2, MM.Q.ty_str, MM.Q.tyO_some, MM.Q.ty_ref, MM.Q.ty_own, MM.Q.ty_list, MM.Q.beq_ll, MM.Q.beq_ss, MM.Q.celO_some, MM.Q.cell_ref, MM.Q.cell_own, MM.Q.ev_append, MM.Q.appO_some, MM.Q.ev_extend, MM.Q.extO_some, MM.Q.ev_pop, MM.Q.popO_snoc, MM.Q.ev_ind, MM.Q.ev_ind1, MM.Q.ev_neg, MM.Q.neg_int, MM.Q.ev_iter, MM.Q.ev_it, MM.Q.itO_some, MM.Q.items_list, MM.Q.items_tup, MM.Q.ev_rg1, MM.Q.rg1_int, MM.Q.ev_lc, MM.Q.ev_lc1, MM.Q.ev_lc2, MM.Q.wipe_nil, MM.Q.wipe_cons, MM.Q.ev_seq, MM.Q.seq_nx, MM.Q.seq_rt, MM.Q.seq_exc, MM.Q.seq_bk, MM.Q.seq_ct, MM.Q.ev_asg, MM.Q.ev_asg1, MM.Q.nxO_some, MM.Q.mg_name, MM.Q.mg_nil, MM.Q.mg_consN, MM.Q.mg_tup, MM.Q.ev_expr, MM.Q.ev_expr1, MM.Q.ev_ret, MM.Q.ev_ret1, MM.Q.ev_retN, MM.Q.ev_skip, MM.Q.ev_brk, MM.Q.ev_cnt, MM.Q.ev_if, MM.Q.if_t, MM.Q.if_f, MM.Q.ev_for, MM.Q.ev_for1, MM.Q.ev_fz, MM.Q.fz_own, MM.Q.fzC_some, MM.Q.fzO_some, MM.Q.fz_d, MM.Q.fz_ref, MM.Q.stO_some, MM.Q.ev_st, MM.Q.ev_st1, MM.Q.ev_st2, MM.Q.ev_st3, MM.Q.ev_setIx, MM.Q.siO_some, MM.Q.ev_par, MM.Q.ev_par1, MM.Q.nones_zero, MM.Q.nones_succ, MM.Q.begin_eq,  MM.Q.ev_fn, MM.Q.fin_rt, MM.Q.fin_ref, MM.Q.fin_nx, MM.Q.trim_same, MM.Q.trim_app, MM.Q.ev_len, MM.Q.ev_lst_l, MM.Q.ev_lst_t, MM.Q.ev_lst_r, MM.Q.ev_lst_o, MM.Q.ev_l1, MM.Q.ev_sum, MM.Q.ev_all, MM.Q.ev_any, MM.Q.ev_isi, MM.Q.kind_str, MM.Q.kind_int, MM.Q.kind_bool, MM.Q.kind_none, MM.Q.kind_dict, MM.Q.kind_list, MM.Q.kind_tup, MM.Q.kit_ss, MM.Q.kit_is, MM.Q.kit_bs, MM.Q.kit_ns, MM.Q.kit_ds, MM.Q.kit_ls, MM.Q.kit_ts, MM.Q.ev_repr, MM.Q.ev_join, MM.Q.lenO_some, MM.Q.len_list, MM.Q.len_tup, MM.Q.lnO_some, MM.Q.len_ref, MM.Q.len_own, MM.Q.lisO_some, MM.Q.l1O_some, MM.Q.ints_map, MM.Q.bools_map, MM.Q.strs_map, MM.Q.isiO_some, MM.Q.jnO_some, MM.Q.len_st, MM.Q.add_st, MM.Q.mul_st, MM.Q.ix_st, MM.Q.sl_st, MM.Q.rev_st, MM.Q.eqv_st, MM.Q.st_dec, MM.Q.divmod_int, MM.Q.items_st, MM.Q.allD_mapf, MM.Q.strs_mapf, MM.Q.ints_mapf, MM.Q.bools_mapf, MM.Q.join_ones_some, MM.Q.sl_own, MM.Q.sl_ref, MM.Q.sl_list, MM.Q.slO_some, MM.Q.add_own, MM.Q.add_ref, MM.Q.add_list, MM.Q.catO_some, MM.Q.cutL_map, MM.Q.mg_tupL, MM.Q.ev_ch, MM.Q.ev_ch1, MM.Q.ev_ch2, MM.Q.ch_t, MM.Q.ch_f, MM.Q.ev_ch3, MM.Q.starts_str, MM.Q.ends_str, MM.Q.upper_str, MM.Q.part_str, MM.Q.ev_fmt, MM.Q.ev_fmtR, MM.Q.fmt_st, MM.Q.fmt_int, MM.Q.ev_js_nil, MM.Q.ev_js_cons, MM.Q.ev_js1, MM.Q.ev_js2, MM.Q.jsF_some, MM.Q.js_st, MM.Q.ev_pr_nil, MM.Q.ev_pr_cons, MM.Q.ev_pr1, MM.Q.ev_pr2, MM.Q.ev_pr3, MM.Q.ev_dct, MM.Q.ev_dct1, MM.Q.keys_one, MM.Q.dctF_one, MM.Q.tup_list, MM.Q.tup_tup, MM.Q.tup_st, MM.Q.lst_st, MM.Q.mul_list, MM.Q.mul_tup, MM.Q.ev_popK, MM.Q.in_own, MM.Q.in_ref, MM.Q.in_list, MM.Q.inO_t, MM.Q.inO_f, 
  List.map_cons, List.map_nil, List.length_cons, List.length_nil, List.append_nil, List.nil_append, List.cons_append, List.getElem?_cons_zero, List.getElem?_cons_succ, List.set_cons_zero, List.set_cons_succ, Bool.and_true, Bool.true_and, Option.bind_some, Option.map_some, Nat.reduceAdd, Nat.reduceSub, Nat.add_sub_cancel, Nat.sub_self])
--- imports sig
/-! names -/
def midL (l : List Nat) : List Nat := Q.cutL l (some 10) (some (-1))
def mrkL (l : List Nat) : List Nat := Q.cutL l (some 1) (some 9)
def calB (l : List Nat) : Bool := decide (l.take 1 = [35]) && (decide (l.drop (l.length - 1) = [59]) && (decide (12 ≤ l.length) && (decide (l[9]? = some 45) && (markB (mrkL l) && wordB (midL l)))))
theorem mid_short {l : List Nat} (h : l.length ≤ 11) : midL l = [] := by
  apply List.eq_nil_of_length_eq_zero
  unfold midL Q.cutL
  have e : HT.sIx l.length l.length (some (-1)) = l.length - 1 := by
    show (if (-1 : Int) < 0 then (-1 + (l.length : Int)).toNat else min (Int.toNat (-1)) l.length) = _
    rw [if_pos (by decide)]
    omega
  rw [e, show HT.sIx l.length 0 (some 10) = min 10 l.length from HT.sIx_nat _ _ 10, List.length_take, List.length_drop]
  omega
theorem at9 {l : List Nat} (h : 9 < l.length) : ∃ d, atI l 9 = some d ∧ l[9]? = some d := by
  refine ⟨l[9], ?_, List.getElem?_eq_getElem h⟩
  rw [Q.atI_nat (by decide) (by omega)]
  exact List.getElem?_eq_getElem h
theorem len_mrk {l : List Nat} : (mrkL l).length ≤ l.length := Q.cutL_len
theorem len_mid {l : List Nat} : (midL l).length ≤ l.length := Q.cutL_len
theorem one_eq {a b : Nat} : decide ([a] = [b]) = decide (a = b) := by
  by_cases h : a = b
  · subst h; rw [decide_eq_true rfl, decide_eq_true rfl]
  · rw [decide_eq_false h, decide_eq_false (fun e => h (List.cons.inj e).1)]
/-! what is no text -/
def noStr (d : PyData) : Bool := match d with | .str _ => false | _ => true
theorem isi_no {S : Sg} {d : PyData} (h : noStr d = true) : Q.isiO (Mv.kind S (.d d)) "str" = some (.val (.d (.bool false))) := by
  cases d with
  | none => rw [Q.kind_none, Q.isiO_some, Q.kit_ns]; rfl
  | bool b => rw [Q.kind_bool, Q.isiO_some, Q.kit_bs]; rfl
  | int i => rw [Q.kind_int, Q.isiO_some, Q.kit_is]; rfl
  | str z => cases h
  | list xs => rw [Q.kind_list, Q.isiO_some, Q.kit_ls]; rfl
  | tuple xs => rw [Q.kind_tup, Q.isiO_some, Q.kit_ts]; rfl
  | dict xs => rw [Q.kind_dict, Q.isiO_some, Q.kit_ds]; rfl
theorem all_in {S : Sg} {ρ0 : Rho} {z l : List Nat} {i : Nat} (hlen : i < ρ0.length) (hl : l.length ≤ 1000000) :
    lcLoop (mgName i) mYes (mBin .ref (gInN false) (mVar i) (mC (.str (Q.st z)))) ρ0 (l.map fun c => .d (.str (Q.st [c]))) [] S = .ok (((l.map fun c => decide (c ∈ z)).map PyData.bool).map .d) S := by
  have := @Q.lc_mapF ρ0 S Nat (mgName i) (mBin .ref (gInN false) (mVar i) (mC (.str (Q.st z)))) (fun c => .d (.str (Q.st [c]))) (fun c => .d (.bool (decide (c ∈ z)))) l [] (fun c _ => ⟨ρ0.set i (some (.d (.str (Q.st [c])))), rfl, by
    have : (ρ0.set i (some (Mv.d (.str (Q.st [c])))))[i]? = some (some (.d (.str (Q.st [c])))) := List.getElem?_set_self hlen
    show (Res.bind (Q.vr (ρ0.set i (some (Mv.d (.str (Q.st [c])))))[i]? S) _) = _
    rw [this]
    show Q.bearO .ref (gInN false S (.d (.str (Q.st [c]))) (.d (.str (Q.st z)))) S = _
    rw [Q.in_str, notin_one]
    rfl, rfl⟩) (by rw [PySem.sizeLine_eq]; simp; omega)
  rw [this, List.nil_append, List.map_map, List.map_map]
  rfl
theorem none_out {S : Sg} {ρ0 : Rho} {z l : List Nat} {i : Nat} (hlen : i < ρ0.length) (hl : l.length ≤ 1000000) :
    lcLoop (mgName i) (mTst (mBin .ref (gInN true) (mVar i) (mC (.str (Q.st z))))) (mVar i) ρ0 (l.map fun c => .d (.str (Q.st [c]))) [] S = .ok ((l.filter fun c => !decide (c ∈ z)).map fun c => .d (.str (Q.st [c]))) S := by
  have := @Q.lc_filterF ρ0 S Nat (mgName i) (mTst (mBin .ref (gInN true) (mVar i) (mC (.str (Q.st z))))) (mVar i) (fun c => .d (.str (Q.st [c]))) (fun c => .d (.str (Q.st [c]))) (fun c => !decide (c ∈ z)) l [] (fun c _ => by
    have e : (ρ0.set i (some (Mv.d (.str (Q.st [c])))))[i]? = some (some (.d (.str (Q.st [c])))) := List.getElem?_set_self hlen
    refine ⟨ρ0.set i (some (.d (.str (Q.st [c])))), rfl, ?_, fun _ => ⟨?_, rfl⟩⟩
    · show (Res.bind (Res.bind (Q.vr (ρ0.set i (some (Mv.d (.str (Q.st [c])))))[i]? S) _) _) = _
      rw [e]
      show Res.bind (Q.bearO .ref (gInN true S (.d (.str (Q.st [c]))) (.d (.str (Q.st z)))) S) _ = _
      rw [Q.notIn_str, notin_one]
      rfl
    · show Q.vr (ρ0.set i (some (Mv.d (.str (Q.st [c])))))[i]? S = _
      rw [e]
      rfl) (by rw [PySem.sizeLine_eq]; simp; omega)
  rw [this, List.nil_append]

end Law
end
section
set_option Elab.async false
set_option linter.all false
set_option maxRecDepth 100000
set_option maxHeartbeats 4000000
set_option autoImplicit false
namespace Law
open PySem PySem.Spec PyProof.Rows L2 MM
local macro_rules | `(tactic| walk_at "mm") => `(tactic| simp (disch := first | assumption | omega | exact MM.Q.shaped_int | exact MM.Q.shaped_nil | exact MM.Q.shaped_ints | exact MM.Q.shaped_bool | (refine of_eq_true (eq_true ?_); first | with_unfolding_all rfl | (simp only [MM.Q.free_d, MM.Q.free_ref, MM.Q.free_adr, MM.Q.frees_nil, MM.Q.frees_cons, MM.Q.frees_map, Bool.and_true, Bool.true_and]; done)) | (simp only [List.length_cons, List.length_nil, List.append_nil, List.map_cons, List.map_nil, List.length_append, List.length_map, List.length_reverse, MM.Q.dI_len, PySem.sizeLine_eq]; omega)) only [MM.Q.bind_ok, MM.Q.bind_exc, MM.Q.go_ok, MM.Q.go_exc, MM.Q.nox_ok, MM.Q.vr_some, MM.Q.ev_var, MM.Q.ev_c, MM.Q.ev_k, MM.Q.frzO_some, MM.Q.tupO_some, MM.Q.tupO_none, MM.Q.bear_val, MM.Q.bear_frz, MM.Q.bear_ref, MM.Q.bear_own, MM.Q.bear_tup, MM.Q.allD_nil, MM.Q.allD_cons, MM.Q.allD_map, MM.Q.bearO_some, MM.Q.ev_bin, MM.Q.ev_bin1, MM.Q.ev_bin2, MM.Q.add_int, MM.Q.sub_int, MM.Q.mul_int, MM.Q.mod_int, MM.Q.fdiv_int, MM.Q.pow_int, MM.Q.intB_int, MM.Q.datO_f, MM.Q.datO_t, MM.Q.data_d, MM.Q.data_ref, MM.Q.data_own, MM.Q.ev_eq_r, MM.Q.ev_eq_o, MM.Q.ev_eq_l, MM.Q.ev_eq_t, MM.Q.ev_eq_i, MM.Q.ev_eq_b, MM.Q.ev_eq_n, MM.Q.ev_eq_st, MM.Q.ev_eq_sf, MM.Q.eqO_some, MM.Q.eqC_t, MM.Q.eqC_f, MM.Q.eqv_nil, MM.Q.eqv_int, MM.Q.eqv_bool, MM.Q.in_str, MM.Q.notIn_str, MM.Q.is_bool, MM.Q.isnot_bool, MM.Q.tst_bool, MM.Q.ev_tst, MM.Q.ev_truth, MM.Q.ev_tru, MM.Q.truO_some, MM.Q.truth_bool, MM.Q.truth_int, MM.Q.truth_none, MM.Q.truth_list, MM.Q.truth_tup, MM.Q.ev_andB, MM.Q.ev_orB, MM.Q.ev_notB, MM.Q.andB_t, MM.Q.andB_f, MM.Q.orB_t, MM.Q.orB_f, MM.Q.ev_notB1, MM.Q.ev_and, MM.Q.ev_or, MM.Q.and_tB, MM.Q.and_fB, MM.Q.or_tB, MM.Q.or_fB, MM.Q.ev_not, MM.Q.ev_not1, MM.Q.notO_some, MM.Q.ev_ifE, MM.Q.ifE_t, MM.Q.ifE_f, MM.Q.ev_nil, MM.Q.ev_cons, MM.Q.ev_cons1, MM.Q.ev_cons2, MM.Q.ev_disp, MM.Q.disp_lst, MM.Q.disp_tup, MM.Q.frees_nil, MM.Q.frees_cons, MM.Q.free_d, MM.Q.free_ref, MM.Q.free_adr, MM.Q.dI_snoc, MM.Q.dI_len, MM.Q.allD_dI, MM.Q.dI_nil, MM.Q.allD_dIs, MM.Q.frees_map, MM.Q.ev_cb, MM.Q.ev_cb1, MM.Q.ev_call, MM.Q.ev_call1, MM.Q.ev_call0, MM.Q.ev_callK, MM.Q.ev_callK1, MM.Q.ev_callK2, MM.Q.ldd_some, MM.Q.laid_nil, MM.Q.laid_k, MM.Q.laid_p, MM.Q.ixO_some, MM.Q.ev_ix, MM.Q.ev_ix1, MM.Q.ev_ix2, MM.Q.ix_list, MM.Q.ix_tup, MM.Q.refS_lst, MM.Q.refS_tup, MM.Q.seq_ref, MM.Q.seq_own, MM.Q.seq_list, MM.Q.seq_tup, MM.Q.ixK_some, MM.Q.ix_ref, MM.Q.ix_own, MM.Q.listO_f, MM.Q.ev_list, MM.Q.at0, MM.Q.at1, MM.Q.at2, MM.Q.at3, MM.Q.at4, MM.Q.ixN0, MM.Q.ixN1, MM.Q.ixN2, MM.Q.ev_oN, MM.Q.ev_oS, MM.Q.oS_int, MM.Q.ev_sl, MM.Q.ev_sl1, MM.Q.ev_sl2, MM.Q.ev_sl3, MM.Q.ev_rev, MM.Q.rev_list, MM.Q.ev_bm, MM.Q.ev_bm1, MM.Q.cBM_t, MM.Q.ev_bm2, MM.Q.buO_some, MM.Q.ev_bu, MM.Q.ev_bu1, MM.Q.cBU_t, MM.Q.ev_bu2, MM.Q.ty_str, MM.Q.tyO_some, MM.Q.ty_ref, MM.Q.ty_own, MM.Q.ty_list, MM.Q.beq_ll, MM.Q.beq_ss, MM.Q.celO_some, MM.Q.cell_ref, MM.Q.cell_own, MM.Q.ev_append, MM.Q.appO_some, MM.Q.ev_extend, MM.Q.extO_some, MM.Q.ev_pop, MM.Q.popO_snoc, MM.Q.ev_ind, MM.Q.ev_ind1, MM.Q.ev_neg, MM.Q.neg_int, MM.Q.ev_iter, MM.Q.ev_it, MM.Q.itO_some, MM.Q.items_list, MM.Q.items_tup, MM.Q.ev_rg1, MM.Q.rg1_int, MM.Q.ev_lc, MM.Q.ev_lc1, MM.Q.ev_lc2, MM.Q.wipe_nil, MM.Q.wipe_cons, MM.Q.ev_seq, MM.Q.seq_nx, MM.Q.seq_rt, MM.Q.seq_exc, MM.Q.seq_bk, MM.Q.seq_ct, MM.Q.ev_asg, MM.Q.ev_asg1, MM.Q.nxO_some, MM.Q.mg_name, MM.Q.mg_nil, MM.Q.mg_consN, MM.Q.mg_tup, MM.Q.ev_expr, MM.Q.ev_expr1, MM.Q.ev_ret, MM.Q.ev_ret1, MM.Q.ev_retN, MM.Q.ev_skip, MM.Q.ev_brk, MM.Q.ev_cnt, MM.Q.ev_if, MM.Q.if_t, MM.Q.if_f, MM.Q.ev_for, MM.Q.ev_for1, MM.Q.ev_fz, MM.Q.fz_own, MM.Q.fzC_some, MM.Q.fzO_some, MM.Q.fz_d, MM.Q.fz_ref, MM.Q.stO_some, MM.Q.ev_st, MM.Q.ev_st1, MM.Q.ev_st2, MM.Q.ev_st3, MM.Q.ev_setIx, MM.Q.siO_some, MM.Q.ev_par, MM.Q.ev_par1, MM.Q.nones_zero, MM.Q.nones_succ, MM.Q.begin_eq,  MM.Q.ev_fn, MM.Q.fin_rt, MM.Q.fin_ref, MM.Q.fin_nx, MM.Q.trim_same, MM.Q.trim_app, MM.Q.ev_len, MM.Q.ev_lst_l, MM.Q.ev_lst_t, MM.Q.ev_lst_r, MM.Q.ev_lst_o, MM.Q.ev_l1, MM.Q.ev_sum, MM.Q.ev_all, MM.Q.ev_any, MM.Q.ev_isi, MM.Q.kind_str, MM.Q.kind_int, MM.Q.kind_bool, MM.Q.kind_none, MM.Q.kind_dict, MM.Q.kind_list, MM.Q.kind_tup, MM.Q.kit_ss, MM.Q.kit_is, MM.Q.kit_bs, MM.Q.kit_ns, MM.Q.kit_ds, MM.Q.kit_ls, MM.Q.kit_ts, MM.Q.ev_repr, MM.Q.ev_join, MM.Q.lenO_some, MM.Q.len_list, MM.Q.len_tup, MM.Q.lnO_some, MM.Q.len_ref, MM.Q.len_own, MM.Q.lisO_some, MM.Q.l1O_some, MM.Q.ints_map, MM.Q.bools_map, MM.Q.strs_map, MM.Q.isiO_some, MM.Q.jnO_some, MM.Q.len_st, MM.Q.add_st, MM.Q.mul_st, MM.Q.ix_st, MM.Q.sl_st, MM.Q.rev_st, MM.Q.eqv_st, MM.Q.st_dec, MM.Q.divmod_int, MM.Q.items_st, MM.Q.allD_mapf, MM.Q.strs_mapf, MM.Q.ints_mapf, MM.Q.bools_mapf, MM.Q.join_ones_some, MM.Q.sl_own, MM.Q.sl_ref, MM.Q.sl_list, MM.Q.slO_some, MM.Q.add_own, MM.Q.add_ref, MM.Q.add_list, MM.Q.catO_some, MM.Q.cutL_map, MM.Q.mg_tupL, MM.Q.ev_ch, MM.Q.ev_ch1, MM.Q.ev_ch2, MM.Q.ch_t, MM.Q.ch_f, MM.Q.ev_ch3, MM.Q.starts_str, MM.Q.ends_str, MM.Q.upper_str, MM.Q.part_str, MM.Q.ev_fmt, MM.Q.ev_fmtR, MM.Q.fmt_st, MM.Q.fmt_int, MM.Q.ev_js_nil, MM.Q.ev_js_cons, MM.Q.ev_js1, MM.Q.ev_js2, MM.Q.jsF_some, MM.Q.js_st, MM.Q.ev_pr_nil, MM.Q.ev_pr_cons, MM.Q.ev_pr1, MM.Q.ev_pr2, MM.Q.ev_pr3, MM.Q.ev_dct, MM.Q.ev_dct1, MM.Q.keys_one, MM.Q.dctF_one, MM.Q.tup_list, MM.Q.tup_tup, MM.Q.tup_st, MM.Q.lst_st, MM.Q.mul_list, MM.Q.mul_tup, MM.Q.ev_popK, MM.Q.in_own, MM.Q.in_ref, MM.Q.in_list, MM.Q.inO_t, MM.Q.inO_f, 
  List.map_cons, List.map_nil, List.length_cons, List.length_nil, List.append_nil, List.nil_append, List.cons_append, List.getElem?_cons_zero, List.getElem?_cons_succ, List.set_cons_zero, List.set_cons_succ, Bool.and_true, Bool.true_and, Option.bind_some, Option.map_some, Nat.reduceAdd, Nat.reduceSub, Nat.add_sub_cancel, Nat.sub_self])
--- imports nos
theorem spec_is_label {S : Sg} {l : List Nat} (hl : l.length ≤ 1000000) : f_is_label [.d (.str (Q.st l))] S = .ok (.d (.bool (wordB l))) S := by
  have hs : l.length ≤ sizeLine := by rw [PySem.sizeLine_eq]; omega
  unfold f_is_label m_is_label e_is_label_1 wordB
  walk_at "mm"
  rw [show k_LETTERS = Q.st lets from lit_l]
  by_cases h1 : 1 ≤ l.length
  · simp only [decide_eq_true h1, decide_eq_true (show (1 : Int) ≤ (l.length : Nat) by omega)]
    walk_at "mm"
    by_cases h2 : l.length ≤ 8
    · simp only [decide_eq_true h2, decide_eq_true (show ((l.length : Nat) : Int) ≤ 8 by omega)]
      walk_at "mm"
      rw [all_in (show 1 < 2 by decide) hl]
      walk_at "mm"
      rw [Q.all_map_id]
    · simp only [decide_eq_false h2, decide_eq_false (show ¬ ((l.length : Nat) : Int) ≤ 8 by omega), Bool.false_and, Bool.and_false]
      walk_at "mm"
  · simp only [decide_eq_false h1, decide_eq_false (show ¬ (1 : Int) ≤ (l.length : Nat) by omega), Bool.false_and]
    walk_at "mm"
theorem spec_is_mark {S : Sg} {l : List Nat} (hl : l.length ≤ 1000000) : f_is_mark [.d (.str (Q.st l))] S = .ok (.d (.bool (markB l))) S := by
  have hs : l.length ≤ sizeLine := by rw [PySem.sizeLine_eq]; omega
  unfold f_is_mark m_is_mark e_is_mark_1 markB
  walk_at "mm"
  rw [show k_FIGURES = Q.st fgs from lit_f]
  by_cases h1 : l.length = 8
  · rw [show ((l.length : Nat) : Int) = 8 by omega]
    simp only [decide_eq_true h1, Q.eqv_int, beq_self_eq_true]
    walk_at "mm"
    rw [all_in (show 1 < 2 by decide) hl]
    walk_at "mm"
    rw [Q.all_map_id]
  · simp only [decide_eq_false h1, Q.eqv_int, beq_eq_false_iff_ne.mpr (show ((l.length : Nat) : Int) ≠ 8 by omega), Bool.false_and]
    walk_at "mm"
section
variable {S : Sg} {d : PyData}
theorem label_no (h : noStr d = true) : f_is_label [.d d] S = .ok (.d (.bool false)) S := by
  unfold f_is_label m_is_label
  walk_at "mm"
  rw [isi_no h]
  walk_at "mm"
theorem mark_no (h : noStr d = true) : f_is_mark [.d d] S = .ok (.d (.bool false)) S := by
  unfold f_is_mark m_is_mark
  walk_at "mm"
  rw [isi_no h]
  walk_at "mm"
end

end Law
end
section
set_option Elab.async false
set_option linter.all false
set_option maxRecDepth 100000
set_option maxHeartbeats 4000000
set_option autoImplicit false
namespace Law
open PySem PySem.Spec PyProof.Rows L2 MM
local macro_rules | `(tactic| walk_at "mm") => `(tactic| simp (disch := first | assumption | omega | exact MM.Q.shaped_int | exact MM.Q.shaped_nil | exact MM.Q.shaped_ints | exact MM.Q.shaped_bool | (refine of_eq_true (eq_true ?_); first | with_unfolding_all rfl | (simp only [MM.Q.free_d, MM.Q.free_ref, MM.Q.free_adr, MM.Q.frees_nil, MM.Q.frees_cons, MM.Q.frees_map, Bool.and_true, Bool.true_and]; done)) | (simp only [List.length_cons, List.length_nil, List.append_nil, List.map_cons, List.map_nil, List.length_append, List.length_map, List.length_reverse, MM.Q.dI_len, PySem.sizeLine_eq]; omega)) only [MM.Q.bind_ok, MM.Q.bind_exc, MM.Q.go_ok, MM.Q.go_exc, MM.Q.nox_ok, MM.Q.vr_some, MM.Q.ev_var, MM.Q.ev_c, MM.Q.ev_k, MM.Q.frzO_some, MM.Q.tupO_some, MM.Q.tupO_none, MM.Q.bear_val, MM.Q.bear_frz, MM.Q.bear_ref, MM.Q.bear_own, MM.Q.bear_tup, MM.Q.allD_nil, MM.Q.allD_cons, MM.Q.allD_map, MM.Q.bearO_some, MM.Q.ev_bin, MM.Q.ev_bin1, MM.Q.ev_bin2, MM.Q.add_int, MM.Q.sub_int, MM.Q.mul_int, MM.Q.mod_int, MM.Q.fdiv_int, MM.Q.pow_int, MM.Q.intB_int, MM.Q.datO_f, MM.Q.datO_t, MM.Q.data_d, MM.Q.data_ref, MM.Q.data_own, MM.Q.ev_eq_r, MM.Q.ev_eq_o, MM.Q.ev_eq_l, MM.Q.ev_eq_t, MM.Q.ev_eq_i, MM.Q.ev_eq_b, MM.Q.ev_eq_n, MM.Q.ev_eq_st, MM.Q.ev_eq_sf, MM.Q.eqO_some, MM.Q.eqC_t, MM.Q.eqC_f, MM.Q.eqv_nil, MM.Q.eqv_int, MM.Q.eqv_bool, MM.Q.in_str, MM.Q.notIn_str, MM.Q.is_bool, MM.Q.isnot_bool, MM.Q.tst_bool, MM.Q.ev_tst, MM.Q.ev_truth, MM.Q.ev_tru, MM.Q.truO_some, MM.Q.truth_bool, MM.Q.truth_int, MM.Q.truth_none, MM.Q.truth_list, MM.Q.truth_tup, MM.Q.ev_andB, MM.Q.ev_orB, MM.Q.ev_notB, MM.Q.andB_t, MM.Q.andB_f, MM.Q.orB_t, MM.Q.orB_f, MM.Q.ev_notB1, MM.Q.ev_and, MM.Q.ev_or, MM.Q.and_tB, MM.Q.and_fB, MM.Q.or_tB, MM.Q.or_fB, MM.Q.ev_not, MM.Q.ev_not1, MM.Q.notO_some, MM.Q.ev_ifE, MM.Q.ifE_t, MM.Q.ifE_f, MM.Q.ev_nil, MM.Q.ev_cons, MM.Q.ev_cons1, MM.Q.ev_cons2, MM.Q.ev_disp, MM.Q.disp_lst, MM.Q.disp_tup, MM.Q.frees_nil, MM.Q.frees_cons, MM.Q.free_d, MM.Q.free_ref, MM.Q.free_adr, MM.Q.dI_snoc, MM.Q.dI_len, MM.Q.allD_dI, MM.Q.dI_nil, MM.Q.allD_dIs, MM.Q.frees_map, MM.Q.ev_cb, MM.Q.ev_cb1, MM.Q.ev_call, MM.Q.ev_call1, MM.Q.ev_call0, MM.Q.ev_callK, MM.Q.ev_callK1, MM.Q.ev_callK2, MM.Q.ldd_some, MM.Q.laid_nil, MM.Q.laid_k, MM.Q.laid_p, MM.Q.ixO_some, MM.Q.ev_ix, MM.Q.ev_ix1, MM.Q.ev_ix2, MM.Q.ix_list, MM.Q.ix_tup, MM.Q.refS_lst, MM.Q.refS_tup, MM.Q.seq_ref, MM.Q.seq_own, MM.Q.seq_list, MM.Q.seq_tup, MM.Q.ixK_some, MM.Q.ix_ref, MM.Q.ix_own, MM.Q.listO_f, MM.Q.ev_list, MM.Q.at0, MM.Q.at1, MM.Q.at2, MM.Q.at3, MM.Q.at4, MM.Q.ixN0, MM.Q.ixN1, MM.Q.ixN2, MM.Q.ev_oN, MM.Q.ev_oS, MM.Q.oS_int, MM.Q.ev_sl, MM.Q.ev_sl1, MM.Q.ev_sl2, MM.Q.ev_sl3, MM.Q.ev_rev, MM.Q.rev_list, MM.Q.ev_bm, MM.Q.ev_bm1, MM.Q.cBM_t, MM.Q.ev_bm2, MM.Q.buO_some, MM.Q.ev_bu, MM.Q.ev_bu1, MM.Q.cBU_t, MM.Q.ev_bu2, MM.Q.ty_str, MM.Q.tyO_some, MM.Q.ty_ref, MM.Q.ty_own, MM.Q.ty_list, MM.Q.beq_ll, MM.Q.beq_ss, MM.Q.celO_some, MM.Q.cell_ref, MM.Q.cell_own, MM.Q.ev_append, MM.Q.appO_some, MM.Q.ev_extend, MM.Q.extO_some, MM.Q.ev_pop, MM.Q.popO_snoc, MM.Q.ev_ind, MM.Q.ev_ind1, MM.Q.ev_neg, MM.Q.neg_int, MM.Q.ev_iter, MM.Q.ev_it, MM.Q.itO_some, MM.Q.items_list, MM.Q.items_tup, MM.Q.ev_rg1, MM.Q.rg1_int, MM.Q.ev_lc, MM.Q.ev_lc1, MM.Q.ev_lc2, MM.Q.wipe_nil, MM.Q.wipe_cons, MM.Q.ev_seq, MM.Q.seq_nx, MM.Q.seq_rt, MM.Q.seq_exc, MM.Q.seq_bk, MM.Q.seq_ct, MM.Q.ev_asg, MM.Q.ev_asg1, MM.Q.nxO_some, MM.Q.mg_name, MM.Q.mg_nil, MM.Q.mg_consN, MM.Q.mg_tup, MM.Q.ev_expr, MM.Q.ev_expr1, MM.Q.ev_ret, MM.Q.ev_ret1, MM.Q.ev_retN, MM.Q.ev_skip, MM.Q.ev_brk, MM.Q.ev_cnt, MM.Q.ev_if, MM.Q.if_t, MM.Q.if_f, MM.Q.ev_for, MM.Q.ev_for1, MM.Q.ev_fz, MM.Q.fz_own, MM.Q.fzC_some, MM.Q.fzO_some, MM.Q.fz_d, MM.Q.fz_ref, MM.Q.stO_some, MM.Q.ev_st, MM.Q.ev_st1, MM.Q.ev_st2, MM.Q.ev_st3, MM.Q.ev_setIx, MM.Q.siO_some, MM.Q.ev_par, MM.Q.ev_par1, MM.Q.nones_zero, MM.Q.nones_succ, MM.Q.begin_eq, spec_is_label, spec_is_mark, label_no, mark_no,  MM.Q.ev_fn, MM.Q.fin_rt, MM.Q.fin_ref, MM.Q.fin_nx, MM.Q.trim_same, MM.Q.trim_app, MM.Q.ev_len, MM.Q.ev_lst_l, MM.Q.ev_lst_t, MM.Q.ev_lst_r, MM.Q.ev_lst_o, MM.Q.ev_l1, MM.Q.ev_sum, MM.Q.ev_all, MM.Q.ev_any, MM.Q.ev_isi, MM.Q.kind_str, MM.Q.kind_int, MM.Q.kind_bool, MM.Q.kind_none, MM.Q.kind_dict, MM.Q.kind_list, MM.Q.kind_tup, MM.Q.kit_ss, MM.Q.kit_is, MM.Q.kit_bs, MM.Q.kit_ns, MM.Q.kit_ds, MM.Q.kit_ls, MM.Q.kit_ts, MM.Q.ev_repr, MM.Q.ev_join, MM.Q.lenO_some, MM.Q.len_list, MM.Q.len_tup, MM.Q.lnO_some, MM.Q.len_ref, MM.Q.len_own, MM.Q.lisO_some, MM.Q.l1O_some, MM.Q.ints_map, MM.Q.bools_map, MM.Q.strs_map, MM.Q.isiO_some, MM.Q.jnO_some, MM.Q.len_st, MM.Q.add_st, MM.Q.mul_st, MM.Q.ix_st, MM.Q.sl_st, MM.Q.rev_st, MM.Q.eqv_st, MM.Q.st_dec, MM.Q.divmod_int, MM.Q.items_st, MM.Q.allD_mapf, MM.Q.strs_mapf, MM.Q.ints_mapf, MM.Q.bools_mapf, MM.Q.join_ones_some, MM.Q.sl_own, MM.Q.sl_ref, MM.Q.sl_list, MM.Q.slO_some, MM.Q.add_own, MM.Q.add_ref, MM.Q.add_list, MM.Q.catO_some, MM.Q.cutL_map, MM.Q.mg_tupL, MM.Q.ev_ch, MM.Q.ev_ch1, MM.Q.ev_ch2, MM.Q.ch_t, MM.Q.ch_f, MM.Q.ev_ch3, MM.Q.starts_str, MM.Q.ends_str, MM.Q.upper_str, MM.Q.part_str, MM.Q.ev_fmt, MM.Q.ev_fmtR, MM.Q.fmt_st, MM.Q.fmt_int, MM.Q.ev_js_nil, MM.Q.ev_js_cons, MM.Q.ev_js1, MM.Q.ev_js2, MM.Q.jsF_some, MM.Q.js_st, MM.Q.ev_pr_nil, MM.Q.ev_pr_cons, MM.Q.ev_pr1, MM.Q.ev_pr2, MM.Q.ev_pr3, MM.Q.ev_dct, MM.Q.ev_dct1, MM.Q.keys_one, MM.Q.dctF_one, MM.Q.tup_list, MM.Q.tup_tup, MM.Q.tup_st, MM.Q.lst_st, MM.Q.mul_list, MM.Q.mul_tup, MM.Q.ev_popK, MM.Q.in_own, MM.Q.in_ref, MM.Q.in_list, MM.Q.inO_t, MM.Q.inO_f, 
  List.map_cons, List.map_nil, List.length_cons, List.length_nil, List.append_nil, List.nil_append, List.cons_append, List.getElem?_cons_zero, List.getElem?_cons_succ, List.set_cons_zero, List.set_cons_succ, Bool.and_true, Bool.true_and, Option.bind_some, Option.map_some, Nat.reduceAdd, Nat.reduceSub, Nat.add_sub_cancel, Nat.sub_self])
--- imports lab
theorem word_nil : wordB [] = false := by decide
theorem spec_is_name {S : Sg} {l : List Nat} (hl : l.length ≤ 1000000) (hk : ∀ c ∈ l, c < 0x110000) : f_is_name [.d (.str (Q.st l))] S = .ok (.d (.bool (calB l))) S := by
  have hs : l.length ≤ sizeLine := by rw [PySem.sizeLine_eq]; omega
  have so : ∀ c : Nat, c < 0x110000 → SeqAt.shaped (.str (Q.st [c])) = true := fun c hc => Q.ok_st fun d hd => by rw [List.mem_singleton.mp hd]; exact hc
  have k45 := so 45 (by decide)
  unfold f_is_name m_is_name calB
  walk_at "mm"
  simp only [Bool.not_true]
  walk_at "mm"
  rw [show k_BETWEEN = Q.st [45] from by decide +kernel, show k_BEGIN = Q.st [35] from by decide +kernel, show k_END = Q.st [59] from by decide +kernel]
  by_cases h3 : 11 ≤ l.length
  · simp only [decide_eq_false (show ¬ ((l.length : Nat) : Int) ≤ 9 + 1 by omega)]
    walk_at "mm"
    obtain ⟨d, e1, e2⟩ := at9 (l := l) (by omega)
    have kd := so d (hk d (List.mem_of_getElem? e2))
    rw [e1, e2]
    walk_at "mm"
    rw [one_eq]
    by_cases h4 : d = 45
    · simp only [h4, decide_true, Bool.not_true]
      walk_at "mm"
      rw [Q.starts_one]
      by_cases h1 : l.take 1 = [35]
      · simp only [decide_eq_true h1, Bool.not_true]
        walk_at "mm"
        rw [Q.ends_one]
        by_cases h2 : l.drop (l.length - 1) = [59]
        · simp only [decide_eq_true h2, Bool.not_true]
          walk_at "mm"
          rw [show Q.cutL l (some 1) (some 9) = mrkL l from rfl, spec_is_mark (Nat.le_trans len_mrk hl)]
          walk_at "mm"
          cases hm : markB (mrkL l) with
          | false =>
            walk_at "mm"
            rw [Bool.false_and, Bool.and_false]
          | true =>
            walk_at "mm"
            rw [show Q.cutL l (some (9 + 1)) (some (-1)) = midL l from rfl, spec_is_label (Nat.le_trans len_mid hl)]
            walk_at "mm"
            by_cases h12 : 12 ≤ l.length
            · rw [decide_eq_true h12, Bool.true_and]
            · rw [mid_short (by omega), word_nil, Bool.and_false]
        · simp only [decide_eq_false h2, Bool.not_false, Bool.false_and]
          walk_at "mm"
      · simp only [decide_eq_false h1, Bool.not_false, Bool.false_and]
        walk_at "mm"
    · simp only [h4, decide_false, Bool.not_false, show ¬ (some d = some 45) from fun e => h4 (Option.some.inj e), Bool.false_and, Bool.and_false]
      walk_at "mm"
  · simp only [decide_eq_true (show ((l.length : Nat) : Int) ≤ 9 + 1 by omega), decide_eq_false (show ¬ 12 ≤ l.length by omega), Bool.false_and, Bool.and_false]
    walk_at "mm"
section
variable {S : Sg} {d : PyData}
theorem name_no (h : noStr d = true) : f_is_name [.d d] S = .ok (.d (.bool false)) S := by
  unfold f_is_name m_is_name
  walk_at "mm"
  rw [isi_no h]
  walk_at "mm"
  simp only [Bool.not_false]
  walk_at "mm"
end

end Law
end
section
set_option Elab.async false
set_option linter.all false
set_option maxRecDepth 100000
set_option maxHeartbeats 4000000
set_option autoImplicit false
namespace Law
open PySem PySem.Spec PyProof.Rows L2 MM
local macro_rules | `(tactic| walk_at "mm") => `(tactic| simp (disch := first | assumption | omega | exact MM.Q.shaped_int | exact MM.Q.shaped_nil | exact MM.Q.shaped_ints | exact MM.Q.shaped_bool | (refine of_eq_true (eq_true ?_); first | with_unfolding_all rfl | (simp only [MM.Q.free_d, MM.Q.free_ref, MM.Q.free_adr, MM.Q.frees_nil, MM.Q.frees_cons, MM.Q.frees_map, Bool.and_true, Bool.true_and]; done)) | (simp only [List.length_cons, List.length_nil, List.append_nil, List.map_cons, List.map_nil, List.length_append, List.length_map, List.length_reverse, MM.Q.dI_len, PySem.sizeLine_eq]; omega)) only [MM.Q.bind_ok, MM.Q.bind_exc, MM.Q.go_ok, MM.Q.go_exc, MM.Q.nox_ok, MM.Q.vr_some, MM.Q.ev_var, MM.Q.ev_c, MM.Q.ev_k, MM.Q.frzO_some, MM.Q.tupO_some, MM.Q.tupO_none, MM.Q.bear_val, MM.Q.bear_frz, MM.Q.bear_ref, MM.Q.bear_own, MM.Q.bear_tup, MM.Q.allD_nil, MM.Q.allD_cons, MM.Q.allD_map, MM.Q.bearO_some, MM.Q.ev_bin, MM.Q.ev_bin1, MM.Q.ev_bin2, MM.Q.add_int, MM.Q.sub_int, MM.Q.mul_int, MM.Q.mod_int, MM.Q.fdiv_int, MM.Q.pow_int, MM.Q.intB_int, MM.Q.datO_f, MM.Q.datO_t, MM.Q.data_d, MM.Q.data_ref, MM.Q.data_own, MM.Q.ev_eq_r, MM.Q.ev_eq_o, MM.Q.ev_eq_l, MM.Q.ev_eq_t, MM.Q.ev_eq_i, MM.Q.ev_eq_b, MM.Q.ev_eq_n, MM.Q.ev_eq_st, MM.Q.ev_eq_sf, MM.Q.eqO_some, MM.Q.eqC_t, MM.Q.eqC_f, MM.Q.eqv_nil, MM.Q.eqv_int, MM.Q.eqv_bool, MM.Q.in_str, MM.Q.notIn_str, MM.Q.is_bool, MM.Q.isnot_bool, MM.Q.tst_bool, MM.Q.ev_tst, MM.Q.ev_truth, MM.Q.ev_tru, MM.Q.truO_some, MM.Q.truth_bool, MM.Q.truth_int, MM.Q.truth_none, MM.Q.truth_list, MM.Q.truth_tup, MM.Q.ev_andB, MM.Q.ev_orB, MM.Q.ev_notB, MM.Q.andB_t, MM.Q.andB_f, MM.Q.orB_t, MM.Q.orB_f, MM.Q.ev_notB1, MM.Q.ev_and, MM.Q.ev_or, MM.Q.and_tB, MM.Q.and_fB, MM.Q.or_tB, MM.Q.or_fB, MM.Q.ev_not, MM.Q.ev_not1, MM.Q.notO_some, MM.Q.ev_ifE, MM.Q.ifE_t, MM.Q.ifE_f, MM.Q.ev_nil, MM.Q.ev_cons, MM.Q.ev_cons1, MM.Q.ev_cons2, MM.Q.ev_disp, MM.Q.disp_lst, MM.Q.disp_tup, MM.Q.frees_nil, MM.Q.frees_cons, MM.Q.free_d, MM.Q.free_ref, MM.Q.free_adr, MM.Q.dI_snoc, MM.Q.dI_len, MM.Q.allD_dI, MM.Q.dI_nil, MM.Q.allD_dIs, MM.Q.frees_map, MM.Q.ev_cb, MM.Q.ev_cb1, MM.Q.ev_call, MM.Q.ev_call1, MM.Q.ev_call0, MM.Q.ev_callK, MM.Q.ev_callK1, MM.Q.ev_callK2, MM.Q.ldd_some, MM.Q.laid_nil, MM.Q.laid_k, MM.Q.laid_p, MM.Q.ixO_some, MM.Q.ev_ix, MM.Q.ev_ix1, MM.Q.ev_ix2, MM.Q.ix_list, MM.Q.ix_tup, MM.Q.refS_lst, MM.Q.refS_tup, MM.Q.seq_ref, MM.Q.seq_own, MM.Q.seq_list, MM.Q.seq_tup, MM.Q.ixK_some, MM.Q.ix_ref, MM.Q.ix_own, MM.Q.listO_f, MM.Q.ev_list, MM.Q.at0, MM.Q.at1, MM.Q.at2, MM.Q.at3, MM.Q.at4, MM.Q.ixN0, MM.Q.ixN1, MM.Q.ixN2, MM.Q.ev_oN, MM.Q.ev_oS, MM.Q.oS_int, MM.Q.ev_sl, MM.Q.ev_sl1, MM.Q.ev_sl2, MM.Q.ev_sl3, MM.Q.ev_rev, MM.Q.rev_list, MM.Q.ev_bm, MM.Q.ev_bm1, MM.Q.cBM_t, MM.Q.ev_bm2, MM.Q.buO_some, MM.Q.ev_bu, MM.Q.ev_bu1, MM.Q.cBU_t, MM.Q.ev_bu2, MM.Q.ty_str, MM.Q.tyO_some, MM.Q.ty_ref, MM.Q.ty_own, MM.Q.ty_list, MM.Q.beq_ll, MM.Q.beq_ss, MM.Q.celO_some, MM.Q.cell_ref, MM.Q.cell_own, MM.Q.ev_append, MM.Q.appO_some, MM.Q.ev_extend, MM.Q.extO_some, MM.Q.ev_pop, MM.Q.popO_snoc, MM.Q.ev_ind, MM.Q.ev_ind1, MM.Q.ev_neg, MM.Q.neg_int, MM.Q.ev_iter, MM.Q.ev_it, MM.Q.itO_some, MM.Q.items_list, MM.Q.items_tup, MM.Q.ev_rg1, MM.Q.rg1_int, MM.Q.ev_lc, MM.Q.ev_lc1, MM.Q.ev_lc2, MM.Q.wipe_nil, MM.Q.wipe_cons, MM.Q.ev_seq, MM.Q.seq_nx, MM.Q.seq_rt, MM.Q.seq_exc, MM.Q.seq_bk, MM.Q.seq_ct, MM.Q.ev_asg, MM.Q.ev_asg1, MM.Q.nxO_some, MM.Q.mg_name, MM.Q.mg_nil, MM.Q.mg_consN, MM.Q.mg_tup, MM.Q.ev_expr, MM.Q.ev_expr1, MM.Q.ev_ret, MM.Q.ev_ret1, MM.Q.ev_retN, MM.Q.ev_skip, MM.Q.ev_brk, MM.Q.ev_cnt, MM.Q.ev_if, MM.Q.if_t, MM.Q.if_f, MM.Q.ev_for, MM.Q.ev_for1, MM.Q.ev_fz, MM.Q.fz_own, MM.Q.fzC_some, MM.Q.fzO_some, MM.Q.fz_d, MM.Q.fz_ref, MM.Q.stO_some, MM.Q.ev_st, MM.Q.ev_st1, MM.Q.ev_st2, MM.Q.ev_st3, MM.Q.ev_setIx, MM.Q.siO_some, MM.Q.ev_par, MM.Q.ev_par1, MM.Q.nones_zero, MM.Q.nones_succ, MM.Q.begin_eq,  MM.Q.ev_fn, MM.Q.fin_rt, MM.Q.fin_ref, MM.Q.fin_nx, MM.Q.trim_same, MM.Q.trim_app, MM.Q.ev_len, MM.Q.ev_lst_l, MM.Q.ev_lst_t, MM.Q.ev_lst_r, MM.Q.ev_lst_o, MM.Q.ev_l1, MM.Q.ev_sum, MM.Q.ev_all, MM.Q.ev_any, MM.Q.ev_isi, MM.Q.kind_str, MM.Q.kind_int, MM.Q.kind_bool, MM.Q.kind_none, MM.Q.kind_dict, MM.Q.kind_list, MM.Q.kind_tup, MM.Q.kit_ss, MM.Q.kit_is, MM.Q.kit_bs, MM.Q.kit_ns, MM.Q.kit_ds, MM.Q.kit_ls, MM.Q.kit_ts, MM.Q.ev_repr, MM.Q.ev_join, MM.Q.lenO_some, MM.Q.len_list, MM.Q.len_tup, MM.Q.lnO_some, MM.Q.len_ref, MM.Q.len_own, MM.Q.lisO_some, MM.Q.l1O_some, MM.Q.ints_map, MM.Q.bools_map, MM.Q.strs_map, MM.Q.isiO_some, MM.Q.jnO_some, MM.Q.len_st, MM.Q.add_st, MM.Q.mul_st, MM.Q.ix_st, MM.Q.sl_st, MM.Q.rev_st, MM.Q.eqv_st, MM.Q.st_dec, MM.Q.divmod_int, MM.Q.items_st, MM.Q.allD_mapf, MM.Q.strs_mapf, MM.Q.ints_mapf, MM.Q.bools_mapf, MM.Q.join_ones_some, MM.Q.sl_own, MM.Q.sl_ref, MM.Q.sl_list, MM.Q.slO_some, MM.Q.add_own, MM.Q.add_ref, MM.Q.add_list, MM.Q.catO_some, MM.Q.cutL_map, MM.Q.mg_tupL, MM.Q.ev_ch, MM.Q.ev_ch1, MM.Q.ev_ch2, MM.Q.ch_t, MM.Q.ch_f, MM.Q.ev_ch3, MM.Q.starts_str, MM.Q.ends_str, MM.Q.upper_str, MM.Q.part_str, MM.Q.ev_fmt, MM.Q.ev_fmtR, MM.Q.fmt_st, MM.Q.fmt_int, MM.Q.ev_js_nil, MM.Q.ev_js_cons, MM.Q.ev_js1, MM.Q.ev_js2, MM.Q.jsF_some, MM.Q.js_st, MM.Q.ev_pr_nil, MM.Q.ev_pr_cons, MM.Q.ev_pr1, MM.Q.ev_pr2, MM.Q.ev_pr3, MM.Q.ev_dct, MM.Q.ev_dct1, MM.Q.keys_one, MM.Q.dctF_one, MM.Q.tup_list, MM.Q.tup_tup, MM.Q.tup_st, MM.Q.lst_st, MM.Q.mul_list, MM.Q.mul_tup, MM.Q.ev_popK, MM.Q.in_own, MM.Q.in_ref, MM.Q.in_list, MM.Q.inO_t, MM.Q.inO_f, 
  List.map_cons, List.map_nil, List.length_cons, List.length_nil, List.append_nil, List.nil_append, List.cons_append, List.getElem?_cons_zero, List.getElem?_cons_succ, List.set_cons_zero, List.set_cons_succ, Bool.and_true, Bool.true_and, Option.bind_some, Option.map_some, Nat.reduceAdd, Nat.reduceSub, Nat.add_sub_cancel, Nat.sub_self])
--- imports nos
def thB (l : List Nat) : Bool := decide (l.length ≤ 400) && l.all isG
theorem spec_is_thing {S : Sg} {l : List Nat} (hl : l.length ≤ 1000000) : f_is_thing [.d (.str (Q.st l))] S = .ok (.d (.bool (thB l))) S := by
  have hs : l.length ≤ sizeLine := by rw [PySem.sizeLine_eq]; omega
  unfold f_is_thing m_is_thing e_is_thing_1 thB
  walk_at "mm"
  rw [show k_SIGNS = Q.st sgs from lit_s]
  by_cases h1 : l.length ≤ 400
  · simp only [decide_eq_true h1, decide_eq_true (show ((l.length : Nat) : Int) ≤ 400 by omega)]
    walk_at "mm"
    rw [all_in (show 1 < 2 by decide) hl]
    walk_at "mm"
    rw [Q.all_map_id]
    simp only [isG_mem]
  · simp only [decide_eq_false h1, decide_eq_false (show ¬ ((l.length : Nat) : Int) ≤ 400 by omega), Bool.false_and]
    walk_at "mm"
theorem thB_good {l : List Nat} (h : ∀ c ∈ l, isG c = true) : thB l = decide (l.length ≤ 400) := by
  unfold thB
  rw [List.all_eq_true.mpr h, Bool.and_true]
section
variable {S : Sg} {d : PyData}
theorem thing_no (h : noStr d = true) : f_is_thing [.d d] S = .ok (.d (.bool false)) S := by
  unfold f_is_thing m_is_thing
  walk_at "mm"
  rw [isi_no h]
  walk_at "mm"
end

end Law
end
section
set_option Elab.async false
set_option linter.all false
set_option maxRecDepth 100000
set_option maxHeartbeats 4000000
set_option autoImplicit false
namespace Law
open PySem PySem.Spec PyProof.Rows L2 MM
local macro_rules | `(tactic| walk_at "mm") => `(tactic| simp (disch := first | assumption | omega | exact MM.Q.shaped_int | exact MM.Q.shaped_nil | exact MM.Q.shaped_ints | exact MM.Q.shaped_bool | (refine of_eq_true (eq_true ?_); first | with_unfolding_all rfl | (simp only [MM.Q.free_d, MM.Q.free_ref, MM.Q.free_adr, MM.Q.frees_nil, MM.Q.frees_cons, MM.Q.frees_map, Bool.and_true, Bool.true_and]; done)) | (simp only [List.length_cons, List.length_nil, List.append_nil, List.map_cons, List.map_nil, List.length_append, List.length_map, List.length_reverse, MM.Q.dI_len, PySem.sizeLine_eq]; omega)) only [MM.Q.bind_ok, MM.Q.bind_exc, MM.Q.go_ok, MM.Q.go_exc, MM.Q.nox_ok, MM.Q.vr_some, MM.Q.ev_var, MM.Q.ev_c, MM.Q.ev_k, MM.Q.frzO_some, MM.Q.tupO_some, MM.Q.tupO_none, MM.Q.bear_val, MM.Q.bear_frz, MM.Q.bear_ref, MM.Q.bear_own, MM.Q.bear_tup, MM.Q.allD_nil, MM.Q.allD_cons, MM.Q.allD_map, MM.Q.bearO_some, MM.Q.ev_bin, MM.Q.ev_bin1, MM.Q.ev_bin2, MM.Q.add_int, MM.Q.sub_int, MM.Q.mul_int, MM.Q.mod_int, MM.Q.fdiv_int, MM.Q.pow_int, MM.Q.intB_int, MM.Q.datO_f, MM.Q.datO_t, MM.Q.data_d, MM.Q.data_ref, MM.Q.data_own, MM.Q.ev_eq_r, MM.Q.ev_eq_o, MM.Q.ev_eq_l, MM.Q.ev_eq_t, MM.Q.ev_eq_i, MM.Q.ev_eq_b, MM.Q.ev_eq_n, MM.Q.ev_eq_st, MM.Q.ev_eq_sf, MM.Q.eqO_some, MM.Q.eqC_t, MM.Q.eqC_f, MM.Q.eqv_nil, MM.Q.eqv_int, MM.Q.eqv_bool, MM.Q.in_str, MM.Q.notIn_str, MM.Q.is_bool, MM.Q.isnot_bool, MM.Q.tst_bool, MM.Q.ev_tst, MM.Q.ev_truth, MM.Q.ev_tru, MM.Q.truO_some, MM.Q.truth_bool, MM.Q.truth_int, MM.Q.truth_none, MM.Q.truth_list, MM.Q.truth_tup, MM.Q.ev_andB, MM.Q.ev_orB, MM.Q.ev_notB, MM.Q.andB_t, MM.Q.andB_f, MM.Q.orB_t, MM.Q.orB_f, MM.Q.ev_notB1, MM.Q.ev_and, MM.Q.ev_or, MM.Q.and_tB, MM.Q.and_fB, MM.Q.or_tB, MM.Q.or_fB, MM.Q.ev_not, MM.Q.ev_not1, MM.Q.notO_some, MM.Q.ev_ifE, MM.Q.ifE_t, MM.Q.ifE_f, MM.Q.ev_nil, MM.Q.ev_cons, MM.Q.ev_cons1, MM.Q.ev_cons2, MM.Q.ev_disp, MM.Q.disp_lst, MM.Q.disp_tup, MM.Q.frees_nil, MM.Q.frees_cons, MM.Q.free_d, MM.Q.free_ref, MM.Q.free_adr, MM.Q.dI_snoc, MM.Q.dI_len, MM.Q.allD_dI, MM.Q.dI_nil, MM.Q.allD_dIs, MM.Q.frees_map, MM.Q.ev_cb, MM.Q.ev_cb1, MM.Q.ev_call, MM.Q.ev_call1, MM.Q.ev_call0, MM.Q.ev_callK, MM.Q.ev_callK1, MM.Q.ev_callK2, MM.Q.ldd_some, MM.Q.laid_nil, MM.Q.laid_k, MM.Q.laid_p, MM.Q.ixO_some, MM.Q.ev_ix, MM.Q.ev_ix1, MM.Q.ev_ix2, MM.Q.ix_list, MM.Q.ix_tup, MM.Q.refS_lst, MM.Q.refS_tup, MM.Q.seq_ref, MM.Q.seq_own, MM.Q.seq_list, MM.Q.seq_tup, MM.Q.ixK_some, MM.Q.ix_ref, MM.Q.ix_own, MM.Q.listO_f, MM.Q.ev_list, MM.Q.at0, MM.Q.at1, MM.Q.at2, MM.Q.at3, MM.Q.at4, MM.Q.ixN0, MM.Q.ixN1, MM.Q.ixN2, MM.Q.ev_oN, MM.Q.ev_oS, MM.Q.oS_int, MM.Q.ev_sl, MM.Q.ev_sl1, MM.Q.ev_sl2, MM.Q.ev_sl3, MM.Q.ev_rev, MM.Q.rev_list, MM.Q.ev_bm, MM.Q.ev_bm1, MM.Q.cBM_t, MM.Q.ev_bm2, MM.Q.buO_some, MM.Q.ev_bu, MM.Q.ev_bu1, MM.Q.cBU_t, MM.Q.ev_bu2, MM.Q.ty_str, MM.Q.tyO_some, MM.Q.ty_ref, MM.Q.ty_own, MM.Q.ty_list, MM.Q.beq_ll, MM.Q.beq_ss, MM.Q.celO_some, MM.Q.cell_ref, MM.Q.cell_own, MM.Q.ev_append, MM.Q.appO_some, MM.Q.ev_extend, MM.Q.extO_some, MM.Q.ev_pop, MM.Q.popO_snoc, MM.Q.ev_ind, MM.Q.ev_ind1, MM.Q.ev_neg, MM.Q.neg_int, MM.Q.ev_iter, MM.Q.ev_it, MM.Q.itO_some, MM.Q.items_list, MM.Q.items_tup, MM.Q.ev_rg1, MM.Q.rg1_int, MM.Q.ev_lc, MM.Q.ev_lc1, MM.Q.ev_lc2, MM.Q.wipe_nil, MM.Q.wipe_cons, MM.Q.ev_seq, MM.Q.seq_nx, MM.Q.seq_rt, MM.Q.seq_exc, MM.Q.seq_bk, MM.Q.seq_ct, MM.Q.ev_asg, MM.Q.ev_asg1, MM.Q.nxO_some, MM.Q.mg_name, MM.Q.mg_nil, MM.Q.mg_consN, MM.Q.mg_tup, MM.Q.ev_expr, MM.Q.ev_expr1, MM.Q.ev_ret, MM.Q.ev_ret1, MM.Q.ev_retN, MM.Q.ev_skip, MM.Q.ev_brk, MM.Q.ev_cnt, MM.Q.ev_if, MM.Q.if_t, MM.Q.if_f, MM.Q.ev_for, MM.Q.ev_for1, MM.Q.ev_fz, MM.Q.fz_own, MM.Q.fzC_some, MM.Q.fzO_some, MM.Q.fz_d, MM.Q.fz_ref, MM.Q.stO_some, MM.Q.ev_st, MM.Q.ev_st1, MM.Q.ev_st2, MM.Q.ev_st3, MM.Q.ev_setIx, MM.Q.siO_some, MM.Q.ev_par, MM.Q.ev_par1, MM.Q.nones_zero, MM.Q.nones_succ, MM.Q.begin_eq,  MM.Q.ev_fn, MM.Q.fin_rt, MM.Q.fin_ref, MM.Q.fin_nx, MM.Q.trim_same, MM.Q.trim_app, MM.Q.ev_len, MM.Q.ev_lst_l, MM.Q.ev_lst_t, MM.Q.ev_lst_r, MM.Q.ev_lst_o, MM.Q.ev_l1, MM.Q.ev_sum, MM.Q.ev_all, MM.Q.ev_any, MM.Q.ev_isi, MM.Q.kind_str, MM.Q.kind_int, MM.Q.kind_bool, MM.Q.kind_none, MM.Q.kind_dict, MM.Q.kind_list, MM.Q.kind_tup, MM.Q.kit_ss, MM.Q.kit_is, MM.Q.kit_bs, MM.Q.kit_ns, MM.Q.kit_ds, MM.Q.kit_ls, MM.Q.kit_ts, MM.Q.ev_repr, MM.Q.ev_join, MM.Q.lenO_some, MM.Q.len_list, MM.Q.len_tup, MM.Q.lnO_some, MM.Q.len_ref, MM.Q.len_own, MM.Q.lisO_some, MM.Q.l1O_some, MM.Q.ints_map, MM.Q.bools_map, MM.Q.strs_map, MM.Q.isiO_some, MM.Q.jnO_some, MM.Q.len_st, MM.Q.add_st, MM.Q.mul_st, MM.Q.ix_st, MM.Q.sl_st, MM.Q.rev_st, MM.Q.eqv_st, MM.Q.st_dec, MM.Q.divmod_int, MM.Q.items_st, MM.Q.allD_mapf, MM.Q.strs_mapf, MM.Q.ints_mapf, MM.Q.bools_mapf, MM.Q.join_ones_some, MM.Q.sl_own, MM.Q.sl_ref, MM.Q.sl_list, MM.Q.slO_some, MM.Q.add_own, MM.Q.add_ref, MM.Q.add_list, MM.Q.catO_some, MM.Q.cutL_map, MM.Q.mg_tupL, MM.Q.ev_ch, MM.Q.ev_ch1, MM.Q.ev_ch2, MM.Q.ch_t, MM.Q.ch_f, MM.Q.ev_ch3, MM.Q.starts_str, MM.Q.ends_str, MM.Q.upper_str, MM.Q.part_str, MM.Q.ev_fmt, MM.Q.ev_fmtR, MM.Q.fmt_st, MM.Q.fmt_int, MM.Q.ev_js_nil, MM.Q.ev_js_cons, MM.Q.ev_js1, MM.Q.ev_js2, MM.Q.jsF_some, MM.Q.js_st, MM.Q.ev_pr_nil, MM.Q.ev_pr_cons, MM.Q.ev_pr1, MM.Q.ev_pr2, MM.Q.ev_pr3, MM.Q.ev_dct, MM.Q.ev_dct1, MM.Q.keys_one, MM.Q.dctF_one, MM.Q.tup_list, MM.Q.tup_tup, MM.Q.tup_st, MM.Q.lst_st, MM.Q.mul_list, MM.Q.mul_tup, MM.Q.ev_popK, MM.Q.in_own, MM.Q.in_ref, MM.Q.in_list, MM.Q.inO_t, MM.Q.inO_f, 
  List.map_cons, List.map_nil, List.length_cons, List.length_nil, List.append_nil, List.nil_append, List.cons_append, List.getElem?_cons_zero, List.getElem?_cons_succ, List.set_cons_zero, List.set_cons_succ, Bool.and_true, Bool.true_and, Option.bind_some, Option.map_some, Nat.reduceAdd, Nat.reduceSub, Nat.add_sub_cancel, Nat.sub_self])
--- imports nos
theorem spec_L_is_word {S : Sg} {l : List Nat} (hl : l.length ≤ 1000000) (hk : ∀ c ∈ l, c < 0x110000) : f_L_is_word [.d (.str (Q.st l))] S = .ok (.d (.bool (wordB l))) S := by
  have hs : l.length ≤ sizeLine := by rw [PySem.sizeLine_eq]; omega
  unfold f_L_is_word m_L_is_word t_L_is_word_1 wordB
  walk_at "mm"
  simp only [Bool.not_true]
  walk_at "mm"
  have hsh : SeqAt.shaped (.list ((l.filter fun c => !decide (c ∈ lets)).map fun c => PyData.str (Q.st [c]))) = true := by
    have := (Q.shaped_strs (ls := (l.filter fun c => !decide (c ∈ lets)).map fun c => [c]) (fun m hm c hc => by
      obtain ⟨d, hd, rfl⟩ := List.mem_map.mp hm
      rw [List.mem_singleton.mp hc]
      exact hk d (List.mem_filter.mp hd).1)).1
    rw [List.map_map] at this
    exact this
  by_cases h1 : 1 ≤ l.length
  · simp only [decide_eq_true h1, decide_eq_true (show (1 : Int) ≤ (l.length : Nat) by omega)]
    walk_at "mm"
    by_cases h2 : l.length ≤ 8
    · simp only [decide_eq_true h2, decide_eq_true (show ((l.length : Nat) : Int) ≤ 8 by omega)]
      walk_at "mm"
      simp only [Bool.not_true]
      walk_at "mm"
      rw [lit_l, none_out (show 1 < 2 by decide) hl]
      walk_at "mm"
      rw [show (List.map (fun c => PyData.str (Q.st [c])) (List.filter (fun c => !decide (c ∈ lets)) l)).isEmpty = (List.filter (fun c => !decide (c ∈ lets)) l).isEmpty from by simp, Q.filter_not_empty]
    · simp only [decide_eq_false h2, decide_eq_false (show ¬ ((l.length : Nat) : Int) ≤ 8 by omega), Bool.false_and, Bool.and_false, Bool.not_false]
      walk_at "mm"
  · simp only [decide_eq_false h1, decide_eq_false (show ¬ (1 : Int) ≤ (l.length : Nat) by omega), Bool.false_and]
    walk_at "mm"
    simp only [Bool.not_false]
    walk_at "mm"
theorem spec_L_is_mark {S : Sg} {l : List Nat} (hl : l.length ≤ 1000000) (hk : ∀ c ∈ l, c < 0x110000) : f_L_is_mark [.d (.str (Q.st l))] S = .ok (.d (.bool (markB l))) S := by
  have hs : l.length ≤ sizeLine := by rw [PySem.sizeLine_eq]; omega
  have hsh : SeqAt.shaped (.list ((l.filter fun c => !decide (c ∈ fgs)).map fun c => PyData.str (Q.st [c]))) = true := by
    have := (Q.shaped_strs (ls := (l.filter fun c => !decide (c ∈ fgs)).map fun c => [c]) (fun m hm c hc => by
      obtain ⟨d, hd, rfl⟩ := List.mem_map.mp hm
      rw [List.mem_singleton.mp hc]
      exact hk d (List.mem_filter.mp hd).1)).1
    rw [List.map_map] at this
    exact this
  unfold f_L_is_mark m_L_is_mark t_L_is_mark_1 markB
  walk_at "mm"
  simp only [Bool.not_true]
  walk_at "mm"
  by_cases h1 : l.length = 8
  · simp only [decide_eq_true h1, show ((l.length : Nat) : Int) = 8 by omega, Q.eqv_int, beq_self_eq_true, Bool.not_true]
    walk_at "mm"
    rw [lit_f, none_out (show 1 < 2 by decide) hl]
    walk_at "mm"
    rw [show (List.map (fun c => PyData.str (Q.st [c])) (List.filter (fun c => !decide (c ∈ fgs)) l)).isEmpty = (List.filter (fun c => !decide (c ∈ fgs)) l).isEmpty from by simp, Q.filter_not_empty]
  · simp only [decide_eq_false h1, Q.eqv_int, beq_eq_false_iff_ne.mpr (show ((l.length : Nat) : Int) ≠ 8 by omega), Bool.false_and, Bool.not_false]
    walk_at "mm"

theorem spec_L_is_called {S : Sg} {l : List Nat} (hl : l.length ≤ 1000000) (hk : ∀ c ∈ l, c < 0x110000) : f_L_is_called [.d (.str (Q.st l))] S = .ok (.d (.bool (calB l))) S := by
  have hs : l.length ≤ sizeLine := by rw [PySem.sizeLine_eq]; omega
  have sh : ∀ lo hi : Option Int, SeqAt.shaped (.str (Q.st (Q.cutL l lo hi))) = true := fun lo hi => Q.ok_st fun c hc => hk c (Q.cutL_mem hc)
  have sh1 := sh none (some 1)
  have sh2 := sh (some (-1)) none
  have so : ∀ c : Nat, c < 0x110000 → SeqAt.shaped (.str (Q.st [c])) = true := fun c hc => Q.ok_st fun d hd => by rw [List.mem_singleton.mp hd]; exact hc
  have k35 := so 35 (by decide)
  have k59 := so 59 (by decide)
  have k45 := so 45 (by decide)
  unfold f_L_is_called m_L_is_called calB
  walk_at "mm"
  simp only [Bool.not_true]
  walk_at "mm"
  rw [show Str.ofString "#" = Q.st [35] from by decide +kernel]
  walk_at "mm"
  rw [Q.cutL_one]
  by_cases h1 : l.take 1 = [35]
  · simp only [decide_eq_true h1, Bool.not_true]
    walk_at "mm"
    rw [show Str.ofString ";" = Q.st [59] from by decide +kernel]
    walk_at "mm"
    rw [Q.cutL_last]
    by_cases h2 : l.drop (l.length - 1) = [59]
    · simp only [decide_eq_true h2, Bool.not_true]
      walk_at "mm"
      by_cases h3 : 12 ≤ l.length
      · simp only [decide_eq_true h3, decide_eq_false (show ¬ ((l.length : Nat) : Int) < 12 by omega)]
        walk_at "mm"
        obtain ⟨d, e1, e2⟩ := at9 (l := l) (by omega)
        have kd := so d (hk d (List.mem_of_getElem? e2))
        rw [show Str.ofString "-" = Q.st [45] from by decide +kernel, e1, e2]
        walk_at "mm"
        rw [one_eq]
        by_cases h4 : d = 45
        · simp only [h4, decide_true, Bool.not_true]
          walk_at "mm"
          rw [show Q.cutL l (some 1) (some 9) = mrkL l from rfl, spec_L_is_mark (Nat.le_trans len_mrk hl) (fun c hc => hk c (Q.cutL_mem hc))]
          walk_at "mm"
          cases hm : markB (mrkL l) with
          | false =>
            walk_at "mm"
            rw [Bool.false_and]
          | true =>
            walk_at "mm"
            rw [show Q.cutL l (some 10) (some (-1)) = midL l from rfl, spec_L_is_word (Nat.le_trans len_mid hl) (fun c hc => hk c (Q.cutL_mem hc))]
            walk_at "mm"
        · simp only [h4, decide_false, Bool.not_false, show ¬ (some d = some 45) from fun e => h4 (Option.some.inj e), Bool.false_and]
          walk_at "mm"
      · simp only [decide_eq_false h3, decide_eq_true (show ((l.length : Nat) : Int) < 12 by omega), Bool.false_and]
        walk_at "mm"
    · simp only [decide_eq_false h2, Bool.not_false, Bool.false_and]
      walk_at "mm"
  · simp only [decide_eq_false h1, Bool.not_false, Bool.false_and]
    walk_at "mm"
section
variable {S : Sg} {d : PyData}
theorem Lword_no (h : noStr d = true) : f_L_is_word [.d d] S = .ok (.d (.bool false)) S := by
  unfold f_L_is_word m_L_is_word
  walk_at "mm"
  rw [isi_no h]
  walk_at "mm"
  simp only [Bool.not_false]
  walk_at "mm"
theorem Lmark_no (h : noStr d = true) : f_L_is_mark [.d d] S = .ok (.d (.bool false)) S := by
  unfold f_L_is_mark m_L_is_mark
  walk_at "mm"
  rw [isi_no h]
  walk_at "mm"
  simp only [Bool.not_false]
  walk_at "mm"
theorem Lcalled_no (h : noStr d = true) : f_L_is_called [.d d] S = .ok (.d (.bool false)) S := by
  unfold f_L_is_called m_L_is_called
  walk_at "mm"
  rw [isi_no h]
  walk_at "mm"
  simp only [Bool.not_false]
  walk_at "mm"
end

end Law
end
section
set_option Elab.async false
set_option linter.all false
set_option maxRecDepth 100000
set_option maxHeartbeats 4000000
set_option autoImplicit false
namespace Law
open PySem PySem.Spec PyProof.Rows L2 MM
local macro_rules | `(tactic| walk_at "mm") => `(tactic| simp (disch := first | assumption | omega | exact MM.Q.shaped_int | exact MM.Q.shaped_nil | exact MM.Q.shaped_ints | exact MM.Q.shaped_bool | (refine of_eq_true (eq_true ?_); first | with_unfolding_all rfl | (simp only [MM.Q.free_d, MM.Q.free_ref, MM.Q.free_adr, MM.Q.frees_nil, MM.Q.frees_cons, MM.Q.frees_map, Bool.and_true, Bool.true_and]; done)) | (simp only [List.length_cons, List.length_nil, List.append_nil, List.map_cons, List.map_nil, List.length_append, List.length_map, List.length_reverse, MM.Q.dI_len, PySem.sizeLine_eq]; omega)) only [MM.Q.bind_ok, MM.Q.bind_exc, MM.Q.go_ok, MM.Q.go_exc, MM.Q.nox_ok, MM.Q.vr_some, MM.Q.ev_var, MM.Q.ev_c, MM.Q.ev_k, MM.Q.frzO_some, MM.Q.tupO_some, MM.Q.tupO_none, MM.Q.bear_val, MM.Q.bear_frz, MM.Q.bear_ref, MM.Q.bear_own, MM.Q.bear_tup, MM.Q.allD_nil, MM.Q.allD_cons, MM.Q.allD_map, MM.Q.bearO_some, MM.Q.ev_bin, MM.Q.ev_bin1, MM.Q.ev_bin2, MM.Q.add_int, MM.Q.sub_int, MM.Q.mul_int, MM.Q.mod_int, MM.Q.fdiv_int, MM.Q.pow_int, MM.Q.intB_int, MM.Q.datO_f, MM.Q.datO_t, MM.Q.data_d, MM.Q.data_ref, MM.Q.data_own, MM.Q.ev_eq_r, MM.Q.ev_eq_o, MM.Q.ev_eq_l, MM.Q.ev_eq_t, MM.Q.ev_eq_i, MM.Q.ev_eq_b, MM.Q.ev_eq_n, MM.Q.ev_eq_st, MM.Q.ev_eq_sf, MM.Q.eqO_some, MM.Q.eqC_t, MM.Q.eqC_f, MM.Q.eqv_nil, MM.Q.eqv_int, MM.Q.eqv_bool, MM.Q.in_str, MM.Q.notIn_str, MM.Q.is_bool, MM.Q.isnot_bool, MM.Q.tst_bool, MM.Q.ev_tst, MM.Q.ev_truth, MM.Q.ev_tru, MM.Q.truO_some, MM.Q.truth_bool, MM.Q.truth_int, MM.Q.truth_none, MM.Q.truth_list, MM.Q.truth_tup, MM.Q.ev_andB, MM.Q.ev_orB, MM.Q.ev_notB, MM.Q.andB_t, MM.Q.andB_f, MM.Q.orB_t, MM.Q.orB_f, MM.Q.ev_notB1, MM.Q.ev_and, MM.Q.ev_or, MM.Q.and_tB, MM.Q.and_fB, MM.Q.or_tB, MM.Q.or_fB, MM.Q.ev_not, MM.Q.ev_not1, MM.Q.notO_some, MM.Q.ev_ifE, MM.Q.ifE_t, MM.Q.ifE_f, MM.Q.ev_nil, MM.Q.ev_cons, MM.Q.ev_cons1, MM.Q.ev_cons2, MM.Q.ev_disp, MM.Q.disp_lst, MM.Q.disp_tup, MM.Q.frees_nil, MM.Q.frees_cons, MM.Q.free_d, MM.Q.free_ref, MM.Q.free_adr, MM.Q.dI_snoc, MM.Q.dI_len, MM.Q.allD_dI, MM.Q.dI_nil, MM.Q.allD_dIs, MM.Q.frees_map, MM.Q.ev_cb, MM.Q.ev_cb1, MM.Q.ev_call, MM.Q.ev_call1, MM.Q.ev_call0, MM.Q.ev_callK, MM.Q.ev_callK1, MM.Q.ev_callK2, MM.Q.ldd_some, MM.Q.laid_nil, MM.Q.laid_k, MM.Q.laid_p, MM.Q.ixO_some, MM.Q.ev_ix, MM.Q.ev_ix1, MM.Q.ev_ix2, MM.Q.ix_list, MM.Q.ix_tup, MM.Q.refS_lst, MM.Q.refS_tup, MM.Q.seq_ref, MM.Q.seq_own, MM.Q.seq_list, MM.Q.seq_tup, MM.Q.ixK_some, MM.Q.ix_ref, MM.Q.ix_own, MM.Q.listO_f, MM.Q.ev_list, MM.Q.at0, MM.Q.at1, MM.Q.at2, MM.Q.at3, MM.Q.at4, MM.Q.ixN0, MM.Q.ixN1, MM.Q.ixN2, MM.Q.ev_oN, MM.Q.ev_oS, MM.Q.oS_int, MM.Q.ev_sl, MM.Q.ev_sl1, MM.Q.ev_sl2, MM.Q.ev_sl3, MM.Q.ev_rev, MM.Q.rev_list, MM.Q.ev_bm, MM.Q.ev_bm1, MM.Q.cBM_t, MM.Q.ev_bm2, MM.Q.buO_some, MM.Q.ev_bu, MM.Q.ev_bu1, MM.Q.cBU_t, MM.Q.ev_bu2, MM.Q.ty_str, MM.Q.tyO_some, MM.Q.ty_ref, MM.Q.ty_own, MM.Q.ty_list, MM.Q.beq_ll, MM.Q.beq_ss, MM.Q.celO_some, MM.Q.cell_ref, MM.Q.cell_own, MM.Q.ev_append, MM.Q.appO_some, MM.Q.ev_extend, MM.Q.extO_some, MM.Q.ev_pop, MM.Q.popO_snoc, MM.Q.ev_ind, MM.Q.ev_ind1, MM.Q.ev_neg, MM.Q.neg_int, MM.Q.ev_iter, MM.Q.ev_it, MM.Q.itO_some, MM.Q.items_list, MM.Q.items_tup, MM.Q.ev_rg1, MM.Q.rg1_int, MM.Q.ev_lc, MM.Q.ev_lc1, MM.Q.ev_lc2, MM.Q.wipe_nil, MM.Q.wipe_cons, MM.Q.ev_seq, MM.Q.seq_nx, MM.Q.seq_rt, MM.Q.seq_exc, MM.Q.seq_bk, MM.Q.seq_ct, MM.Q.ev_asg, MM.Q.ev_asg1, MM.Q.nxO_some, MM.Q.mg_name, MM.Q.mg_nil, MM.Q.mg_consN, MM.Q.mg_tup, MM.Q.ev_expr, MM.Q.ev_expr1, MM.Q.ev_ret, MM.Q.ev_ret1, MM.Q.ev_retN, MM.Q.ev_skip, MM.Q.ev_brk, MM.Q.ev_cnt, MM.Q.ev_if, MM.Q.if_t, MM.Q.if_f, MM.Q.ev_for, MM.Q.ev_for1, MM.Q.ev_fz, MM.Q.fz_own, MM.Q.fzC_some, MM.Q.fzO_some, MM.Q.fz_d, MM.Q.fz_ref, MM.Q.stO_some, MM.Q.ev_st, MM.Q.ev_st1, MM.Q.ev_st2, MM.Q.ev_st3, MM.Q.ev_setIx, MM.Q.siO_some, MM.Q.ev_par, MM.Q.ev_par1, MM.Q.nones_zero, MM.Q.nones_succ, MM.Q.begin_eq, thing_no, label_no, mark_no, name_no, Lword_no, Lmark_no, Lcalled_no, spec_L_is_word, spec_L_is_mark, spec_L_is_called, spec_is_thing, spec_is_label, spec_is_mark, spec_is_name,  MM.Q.ev_fn, MM.Q.fin_rt, MM.Q.fin_ref, MM.Q.fin_nx, MM.Q.trim_same, MM.Q.trim_app, MM.Q.ev_len, MM.Q.ev_lst_l, MM.Q.ev_lst_t, MM.Q.ev_lst_r, MM.Q.ev_lst_o, MM.Q.ev_l1, MM.Q.ev_sum, MM.Q.ev_all, MM.Q.ev_any, MM.Q.ev_isi, MM.Q.kind_str, MM.Q.kind_int, MM.Q.kind_bool, MM.Q.kind_none, MM.Q.kind_dict, MM.Q.kind_list, MM.Q.kind_tup, MM.Q.kit_ss, MM.Q.kit_is, MM.Q.kit_bs, MM.Q.kit_ns, MM.Q.kit_ds, MM.Q.kit_ls, MM.Q.kit_ts, MM.Q.ev_repr, MM.Q.ev_join, MM.Q.lenO_some, MM.Q.len_list, MM.Q.len_tup, MM.Q.lnO_some, MM.Q.len_ref, MM.Q.len_own, MM.Q.lisO_some, MM.Q.l1O_some, MM.Q.ints_map, MM.Q.bools_map, MM.Q.strs_map, MM.Q.isiO_some, MM.Q.jnO_some, MM.Q.len_st, MM.Q.add_st, MM.Q.mul_st, MM.Q.ix_st, MM.Q.sl_st, MM.Q.rev_st, MM.Q.eqv_st, MM.Q.st_dec, MM.Q.divmod_int, MM.Q.items_st, MM.Q.allD_mapf, MM.Q.strs_mapf, MM.Q.ints_mapf, MM.Q.bools_mapf, MM.Q.join_ones_some, MM.Q.sl_own, MM.Q.sl_ref, MM.Q.sl_list, MM.Q.slO_some, MM.Q.add_own, MM.Q.add_ref, MM.Q.add_list, MM.Q.catO_some, MM.Q.cutL_map, MM.Q.mg_tupL, MM.Q.ev_ch, MM.Q.ev_ch1, MM.Q.ev_ch2, MM.Q.ch_t, MM.Q.ch_f, MM.Q.ev_ch3, MM.Q.starts_str, MM.Q.ends_str, MM.Q.upper_str, MM.Q.part_str, MM.Q.ev_fmt, MM.Q.ev_fmtR, MM.Q.fmt_st, MM.Q.fmt_int, MM.Q.ev_js_nil, MM.Q.ev_js_cons, MM.Q.ev_js1, MM.Q.ev_js2, MM.Q.jsF_some, MM.Q.js_st, MM.Q.ev_pr_nil, MM.Q.ev_pr_cons, MM.Q.ev_pr1, MM.Q.ev_pr2, MM.Q.ev_pr3, MM.Q.ev_dct, MM.Q.ev_dct1, MM.Q.keys_one, MM.Q.dctF_one, MM.Q.tup_list, MM.Q.tup_tup, MM.Q.tup_st, MM.Q.lst_st, MM.Q.mul_list, MM.Q.mul_tup, MM.Q.ev_popK, MM.Q.in_own, MM.Q.in_ref, MM.Q.in_list, MM.Q.inO_t, MM.Q.inO_f, 
  List.map_cons, List.map_nil, List.length_cons, List.length_nil, List.append_nil, List.nil_append, List.cons_append, List.getElem?_cons_zero, List.getElem?_cons_succ, List.set_cons_zero, List.set_cons_succ, Bool.and_true, Bool.true_and, Option.bind_some, Option.map_some, Nat.reduceAdd, Nat.reduceSub, Nat.add_sub_cancel, Nat.sub_self])
--- imports rep name thing llab
def eight (b1 b2 b3 b4 : Bool) : PyData := .list [.bool b1, .bool b2, .bool b3, .bool b4, .bool b1, .bool b2, .bool b3, .bool b4]
theorem rep8 (b1 b2 b3 b4 : Bool) : Q.repO (some (.list [.bool b1, .bool b2, .bool b3, .bool b4, .bool b1, .bool b2, .bool b3, .bool b4])) = some (.val (.d (.str (eight b1 b2 b3 b4).shown))) := by
  refine rp_rep ?_ ?_ ?_
  · cases b1 <;> cases b2 <;> cases b3 <;> cases b4 <;> decide
  · simp only [depth_list, depth_cons, depth_nil, depth_bool]; decide
  · simp only [bulk_list, bulk_cons, bulk_nil, bulk_bool]; decide
theorem rep_st {n : Nat} {l : List Nat} (h : Gd n l) (hn : n ≤ 100000) : Q.repO (some (.str (Q.st l))) = some (.val (.d (.str (PyData.str (Q.st l)).shown))) :=
  rp_rep (rp_st h) (by rw [depth_st]; decide) (by rw [bulk_st]; have := h.len; omega)
theorem spec_right_st {S : Sg} {n : Nat} {l : List Nat} (h : Gd n l) (hn : n ≤ 100000) : f_L_right [.d (.str (Q.st l))] S = .ok (.d (.bool true)) S := by
  have hl := h.len
  have hs : l.length ≤ sizeLine := by rw [PySem.sizeLine_eq]; omega
  have hk := h.ok
  have hr := rep_st h hn
  have h5 : l.length ≤ 1000000 := by omega
  have hlt : decide (((l.length : Nat) : Int) < 401) = thB l := by
    rw [thB_good h.all]
    by_cases h : l.length ≤ 400
    · rw [decide_eq_true h, decide_eq_true (by omega)]
    · rw [decide_eq_false h, decide_eq_false (by omega)]
  unfold f_L_right m_L_right
  walk_at "mm"
  rw [hr]
  walk_at "mm"
  rw [hlt]
  rw [rep8]
  walk_at "mm"
  rw [rep8]
  walk_at "mm"
  simp only [decide_true]
  walk_at "mm"
  rw [hr]
  walk_at "mm"
  simp only [decide_true]
theorem spec_right_no {S : Sg} {d : PyData} (h : noStr d = true) (hr : Q.repO (some d) = some (.val (.d (.str d.shown)))) : f_L_right [.d d] S = .ok (.d (.bool true)) S := by
  have hd : Mv.data S (.d d) = some d := rfl
  unfold f_L_right m_L_right
  walk_at "mm"
  rw [hr]
  walk_at "mm"
  rw [isi_no h]
  walk_at "mm"
  rw [rep8]
  walk_at "mm"
  rw [rep8]
  walk_at "mm"
  simp only [decide_true]
  walk_at "mm"
  rw [hr]
  walk_at "mm"
  simp only [decide_true]
/-- what is right for L_right -/
def Rt (d : PyData) : Prop := (∃ n l, d = .str (Q.st l) ∧ Gd n l ∧ n ≤ 100000) ∨ (noStr d = true ∧ Q.repO (some d) = some (.val (.d (.str d.shown))))
theorem Rt.right {S : Sg} {d : PyData} (h : Rt d) : f_L_right [.d d] S = .ok (.d (.bool true)) S := by
  rcases h with ⟨n, l, rfl, h, hn⟩ | ⟨h, hr⟩
  · exact spec_right_st h hn
  · exact spec_right_no h hr
theorem Rt.st {n : Nat} {l : List Nat} (h : Gd n l) (hn : n ≤ 100000) : Rt (.str (Q.st l)) := .inl ⟨n, l, rfl, h, hn⟩
theorem Rt.no {d : PyData} (h : noStr d = true) (h1 : rp d = true) (h2 : d.depth ≤ 64) (h3 : d.bulk ≤ 200000) : Rt d := .inr ⟨h, rp_rep h1 h2 h3⟩
def oddL (l : List Nat) : List PyData := [.none, .bool true, .bool false, .int 0, .int 8, .int (-1), .int (10 ^ 39), .tuple [], .list [], .dict [], .tuple [.str (Q.st l)], .list [.str (Q.st l)], .dict [(.str (Q.st l), .str (Q.st l))],
  .list (l.map fun c => .str (Q.st [c])), .tuple (l.map fun c => .str (Q.st [c])), .tuple [.tuple [.str (Q.st l), .str (Q.st l)]], .str (Q.st []), .str (Q.st [59]), .str (Q.st [35]), .str (Q.st [35, 45, 59])]
theorem spec_odd {S : Sg} {n : Nat} {l : List Nat} (h : Gd n l) (hn : n ≤ 10000) : f_L_odd [mS l] S = .ok (.d (.list (oddL l))) S := by
  have h16 : sizeLine = 16777216 := PySem.sizeLine_eq
  have hl := h.len
  have hs : l.length ≤ sizeLine := by omega
  unfold f_L_odd m_L_odd oddL
  rw [show Str.ofString "" = Q.st [] by decide +kernel, show Str.ofString ";" = Q.st [59] by decide +kernel, show Str.ofString "#" = Q.st [35] by decide +kernel, show Str.ofString "#-;" = Q.st [35, 45, 59] by decide +kernel]
  walk_at "mm"
  rw [show Int.toNat 39 = 39 from rfl]
theorem odd_right {n : Nat} {l : List Nat} (h : Gd n l) (hn : n ≤ 10000) : ∀ d ∈ oddL l, Rt d := by
  have hl := h.len
  have hr := rp_st h
  have h16 : sizeLine = 16777216 := PySem.sizeLine_eq
  unfold oddL
  intro d hd
  simp only [List.mem_cons, List.not_mem_nil, or_false] at hd
  rcases hd with rfl | rfl | rfl | rfl | rfl | rfl | rfl | rfl | rfl | rfl | rfl | rfl | rfl | rfl | rfl | rfl | rfl | rfl | rfl | rfl
  · exact .no rfl rfl (by decide) (by decide)
  · exact .no rfl rfl (by decide) (by decide)
  · exact .no rfl rfl (by decide) (by decide)
  · exact .no rfl (rp_int (by decide)) (by decide) (by decide)
  · exact .no rfl (rp_int (by decide)) (by decide) (by decide)
  · exact .no rfl (rp_int (by decide)) (by decide) (by decide)
  · exact .no rfl (rp_int (by decide)) (by rw [depth_int]; decide) (by rw [bulk_int]; decide)
  · exact .no rfl (by rw [rp_tup, rps_nil]) (by decide) (by decide)
  · exact .no rfl (by rw [rp_list, rps_nil]) (by decide) (by decide)
  · exact .inr ⟨rfl, Q.repO_some (by decide) (by decide) (by rw [PySem.sizeLine_eq]; decide +kernel)⟩
  · exact .no rfl (by rw [rp_tup, rps_cons, hr, rps_nil]; rfl) (by simp only [depth_tup, depth_cons, depth_nil, depth_st]; decide) (by simp only [bulk_tup, bulk_cons, bulk_nil, bulk_st]; omega)
  · exact .no rfl (by rw [rp_list, rps_cons, hr, rps_nil]; rfl) (by simp only [depth_list, depth_cons, depth_nil, depth_st]; decide) (by simp only [bulk_list, bulk_cons, bulk_nil, bulk_st]; omega)
  · refine .inr ⟨rfl, Q.repO_some (by simp [shows, thin, PyData.depth, PyData.depthKv]) rfl ?_⟩
    have hq := (rp_lay hr).2.2
    have h1 := PyData.shown_le_bulk 60 (by decide) (.dict [(.str (Q.st l), .str (Q.st l))]) (by simp only [PyData.leavesShort, PyData.leavesShortKv] at hq ⊢; rw [hq]; rfl)
    have h2 : (PyData.dict [(.str (Q.st l), .str (Q.st l))]).bulk = l.length + l.length + 2 := by simp only [PyData.bulk, PyData.bulkKv]; simp [Q.st]
    rw [h2] at h1
    omega
  · exact .no rfl (by rw [rp_list]; exact rps_ones h.all) (by rw [depth_list, depth_ones]; decide) (by rw [bulk_list, bulk_ones]; omega)
  · exact .no rfl (by rw [rp_tup]; exact rps_ones h.all) (by rw [depth_tup, depth_ones]; decide) (by rw [bulk_tup, bulk_ones]; omega)
  · exact .no rfl (by simp only [rp_tup, rps_cons, hr, rps_nil]; rfl) (by simp only [depth_tup, depth_cons, depth_nil, depth_st]; decide) (by simp only [bulk_tup, bulk_cons, bulk_nil, bulk_st]; omega)
  · exact .st Gd.nil (by decide)
  · exact .st (Gd.one (by decide)) (by decide)
  · exact .st (Gd.one (by decide)) (by decide)
  · exact .st (Gd.of (l := [35, 45, 59]) (by decide)) (by decide)

end Law
end
section
set_option Elab.async false
set_option linter.all false
set_option maxRecDepth 100000
set_option maxHeartbeats 4000000
set_option autoImplicit false
namespace Law
open PySem PySem.Spec PyProof.Rows L2 MM
local macro_rules | `(tactic| walk_at "mm") => `(tactic| simp (disch := first | assumption | omega | exact MM.Q.shaped_int | exact MM.Q.shaped_nil | exact MM.Q.shaped_ints | exact MM.Q.shaped_bool | (refine of_eq_true (eq_true ?_); first | with_unfolding_all rfl | (simp only [MM.Q.free_d, MM.Q.free_ref, MM.Q.free_adr, MM.Q.frees_nil, MM.Q.frees_cons, MM.Q.frees_map, Bool.and_true, Bool.true_and]; done)) | (simp only [List.length_cons, List.length_nil, List.append_nil, List.map_cons, List.map_nil, List.length_append, List.length_map, List.length_reverse, MM.Q.dI_len, PySem.sizeLine_eq]; omega)) only [MM.Q.bind_ok, MM.Q.bind_exc, MM.Q.go_ok, MM.Q.go_exc, MM.Q.nox_ok, MM.Q.vr_some, MM.Q.ev_var, MM.Q.ev_c, MM.Q.ev_k, MM.Q.frzO_some, MM.Q.tupO_some, MM.Q.tupO_none, MM.Q.bear_val, MM.Q.bear_frz, MM.Q.bear_ref, MM.Q.bear_own, MM.Q.bear_tup, MM.Q.allD_nil, MM.Q.allD_cons, MM.Q.allD_map, MM.Q.bearO_some, MM.Q.ev_bin, MM.Q.ev_bin1, MM.Q.ev_bin2, MM.Q.add_int, MM.Q.sub_int, MM.Q.mul_int, MM.Q.mod_int, MM.Q.fdiv_int, MM.Q.pow_int, MM.Q.intB_int, MM.Q.datO_f, MM.Q.datO_t, MM.Q.data_d, MM.Q.data_ref, MM.Q.data_own, MM.Q.ev_eq_r, MM.Q.ev_eq_o, MM.Q.ev_eq_l, MM.Q.ev_eq_t, MM.Q.ev_eq_i, MM.Q.ev_eq_b, MM.Q.ev_eq_n, MM.Q.ev_eq_st, MM.Q.ev_eq_sf, MM.Q.eqO_some, MM.Q.eqC_t, MM.Q.eqC_f, MM.Q.eqv_nil, MM.Q.eqv_int, MM.Q.eqv_bool, MM.Q.in_str, MM.Q.notIn_str, MM.Q.is_bool, MM.Q.isnot_bool, MM.Q.tst_bool, MM.Q.ev_tst, MM.Q.ev_truth, MM.Q.ev_tru, MM.Q.truO_some, MM.Q.truth_bool, MM.Q.truth_int, MM.Q.truth_none, MM.Q.truth_list, MM.Q.truth_tup, MM.Q.ev_andB, MM.Q.ev_orB, MM.Q.ev_notB, MM.Q.andB_t, MM.Q.andB_f, MM.Q.orB_t, MM.Q.orB_f, MM.Q.ev_notB1, MM.Q.ev_and, MM.Q.ev_or, MM.Q.and_tB, MM.Q.and_fB, MM.Q.or_tB, MM.Q.or_fB, MM.Q.ev_not, MM.Q.ev_not1, MM.Q.notO_some, MM.Q.ev_ifE, MM.Q.ifE_t, MM.Q.ifE_f, MM.Q.ev_nil, MM.Q.ev_cons, MM.Q.ev_cons1, MM.Q.ev_cons2, MM.Q.ev_disp, MM.Q.disp_lst, MM.Q.disp_tup, MM.Q.frees_nil, MM.Q.frees_cons, MM.Q.free_d, MM.Q.free_ref, MM.Q.free_adr, MM.Q.dI_snoc, MM.Q.dI_len, MM.Q.allD_dI, MM.Q.dI_nil, MM.Q.allD_dIs, MM.Q.frees_map, MM.Q.ev_cb, MM.Q.ev_cb1, MM.Q.ev_call, MM.Q.ev_call1, MM.Q.ev_call0, MM.Q.ev_callK, MM.Q.ev_callK1, MM.Q.ev_callK2, MM.Q.ldd_some, MM.Q.laid_nil, MM.Q.laid_k, MM.Q.laid_p, MM.Q.ixO_some, MM.Q.ev_ix, MM.Q.ev_ix1, MM.Q.ev_ix2, MM.Q.ix_list, MM.Q.ix_tup, MM.Q.refS_lst, MM.Q.refS_tup, MM.Q.seq_ref, MM.Q.seq_own, MM.Q.seq_list, MM.Q.seq_tup, MM.Q.ixK_some, MM.Q.ix_ref, MM.Q.ix_own, MM.Q.listO_f, MM.Q.ev_list, MM.Q.at0, MM.Q.at1, MM.Q.at2, MM.Q.at3, MM.Q.at4, MM.Q.ixN0, MM.Q.ixN1, MM.Q.ixN2, MM.Q.ev_oN, MM.Q.ev_oS, MM.Q.oS_int, MM.Q.ev_sl, MM.Q.ev_sl1, MM.Q.ev_sl2, MM.Q.ev_sl3, MM.Q.ev_rev, MM.Q.rev_list, MM.Q.ev_bm, MM.Q.ev_bm1, MM.Q.cBM_t, MM.Q.ev_bm2, MM.Q.buO_some, MM.Q.ev_bu, MM.Q.ev_bu1, MM.Q.cBU_t, MM.Q.ev_bu2, MM.Q.ty_str, MM.Q.tyO_some, MM.Q.ty_ref, MM.Q.ty_own, MM.Q.ty_list, MM.Q.beq_ll, MM.Q.beq_ss, MM.Q.celO_some, MM.Q.cell_ref, MM.Q.cell_own, MM.Q.ev_append, MM.Q.appO_some, MM.Q.ev_extend, MM.Q.extO_some, MM.Q.ev_pop, MM.Q.popO_snoc, MM.Q.ev_ind, MM.Q.ev_ind1, MM.Q.ev_neg, MM.Q.neg_int, MM.Q.ev_iter, MM.Q.ev_it, MM.Q.itO_some, MM.Q.items_list, MM.Q.items_tup, MM.Q.ev_rg1, MM.Q.rg1_int, MM.Q.ev_lc, MM.Q.ev_lc1, MM.Q.ev_lc2, MM.Q.wipe_nil, MM.Q.wipe_cons, MM.Q.ev_seq, MM.Q.seq_nx, MM.Q.seq_rt, MM.Q.seq_exc, MM.Q.seq_bk, MM.Q.seq_ct, MM.Q.ev_asg, MM.Q.ev_asg1, MM.Q.nxO_some, MM.Q.mg_name, MM.Q.mg_nil, MM.Q.mg_consN, MM.Q.mg_tup, MM.Q.ev_expr, MM.Q.ev_expr1, MM.Q.ev_ret, MM.Q.ev_ret1, MM.Q.ev_retN, MM.Q.ev_skip, MM.Q.ev_brk, MM.Q.ev_cnt, MM.Q.ev_if, MM.Q.if_t, MM.Q.if_f, MM.Q.ev_for, MM.Q.ev_for1, MM.Q.ev_fz, MM.Q.fz_own, MM.Q.fzC_some, MM.Q.fzO_some, MM.Q.fz_d, MM.Q.fz_ref, MM.Q.stO_some, MM.Q.ev_st, MM.Q.ev_st1, MM.Q.ev_st2, MM.Q.ev_st3, MM.Q.ev_setIx, MM.Q.siO_some, MM.Q.ev_par, MM.Q.ev_par1, MM.Q.nones_zero, MM.Q.nones_succ, MM.Q.begin_eq,  MM.Q.ev_fn, MM.Q.fin_rt, MM.Q.fin_ref, MM.Q.fin_nx, MM.Q.trim_same, MM.Q.trim_app, MM.Q.ev_len, MM.Q.ev_lst_l, MM.Q.ev_lst_t, MM.Q.ev_lst_r, MM.Q.ev_lst_o, MM.Q.ev_l1, MM.Q.ev_sum, MM.Q.ev_all, MM.Q.ev_any, MM.Q.ev_isi, MM.Q.kind_str, MM.Q.kind_int, MM.Q.kind_bool, MM.Q.kind_none, MM.Q.kind_dict, MM.Q.kind_list, MM.Q.kind_tup, MM.Q.kit_ss, MM.Q.kit_is, MM.Q.kit_bs, MM.Q.kit_ns, MM.Q.kit_ds, MM.Q.kit_ls, MM.Q.kit_ts, MM.Q.ev_repr, MM.Q.ev_join, MM.Q.lenO_some, MM.Q.len_list, MM.Q.len_tup, MM.Q.lnO_some, MM.Q.len_ref, MM.Q.len_own, MM.Q.lisO_some, MM.Q.l1O_some, MM.Q.ints_map, MM.Q.bools_map, MM.Q.strs_map, MM.Q.isiO_some, MM.Q.jnO_some, MM.Q.len_st, MM.Q.add_st, MM.Q.mul_st, MM.Q.ix_st, MM.Q.sl_st, MM.Q.rev_st, MM.Q.eqv_st, MM.Q.st_dec, MM.Q.divmod_int, MM.Q.items_st, MM.Q.allD_mapf, MM.Q.strs_mapf, MM.Q.ints_mapf, MM.Q.bools_mapf, MM.Q.join_ones_some, MM.Q.sl_own, MM.Q.sl_ref, MM.Q.sl_list, MM.Q.slO_some, MM.Q.add_own, MM.Q.add_ref, MM.Q.add_list, MM.Q.catO_some, MM.Q.cutL_map, MM.Q.mg_tupL, MM.Q.ev_ch, MM.Q.ev_ch1, MM.Q.ev_ch2, MM.Q.ch_t, MM.Q.ch_f, MM.Q.ev_ch3, MM.Q.starts_str, MM.Q.ends_str, MM.Q.upper_str, MM.Q.part_str, MM.Q.ev_fmt, MM.Q.ev_fmtR, MM.Q.fmt_st, MM.Q.fmt_int, MM.Q.ev_js_nil, MM.Q.ev_js_cons, MM.Q.ev_js1, MM.Q.ev_js2, MM.Q.jsF_some, MM.Q.js_st, MM.Q.ev_pr_nil, MM.Q.ev_pr_cons, MM.Q.ev_pr1, MM.Q.ev_pr2, MM.Q.ev_pr3, MM.Q.ev_dct, MM.Q.ev_dct1, MM.Q.keys_one, MM.Q.dctF_one, MM.Q.tup_list, MM.Q.tup_tup, MM.Q.tup_st, MM.Q.lst_st, MM.Q.mul_list, MM.Q.mul_tup, MM.Q.ev_popK, MM.Q.in_own, MM.Q.in_ref, MM.Q.in_list, MM.Q.inO_t, MM.Q.inO_f, 
  List.map_cons, List.map_nil, List.length_cons, List.length_nil, List.append_nil, List.nil_append, List.cons_append, List.getElem?_cons_zero, List.getElem?_cons_succ, List.set_cons_zero, List.set_cons_succ, Bool.and_true, Bool.true_and, Option.bind_some, Option.map_some, Nat.reduceAdd, Nat.reduceSub, Nat.add_sub_cancel, Nat.sub_self])
--- imports 
/-! the deck -/
def deckS (xs : List Int) (b c : Int) (T : Sg) : Sg := (false, Mo.lst (Q.dI xs)) :: (false, Mo.lst [.ref 0, .d (.int b), .d (.int c)]) :: T
theorem deckS_len {xs : List Int} {b c : Int} {T : Sg} : (deckS xs b c T).length = T.length + 2 := rfl
theorem deckS_get2 {xs : List Int} {b c : Int} {t : Bool × Mo} {T : Sg} : (deckS xs b c (t :: T))[2]? = some t := rfl
theorem deckS_set2 {xs : List Int} {b c : Int} {t u : Bool × Mo} {T : Sg} : (deckS xs b c (t :: T)).set 2 u = deckS xs b c (u :: T) := rfl
theorem dk_app {xs : List Int} {b c : Int} {T U : Sg} : deckS xs b c T ++ U = deckS xs b c (T ++ U) := rfl
theorem dk_get0 {xs : List Int} {b c : Int} {T : Sg} {u : Bool × Mo} : (deckS xs b c (T ++ [u]))[T.length + 2]? = some u := by
  show (T ++ [u])[T.length]? = _
  simp
theorem dk_set0 {xs : List Int} {b c : Int} {T : Sg} {u w : Bool × Mo} : (deckS xs b c (T ++ [u])).set (T.length + 2) w = deckS xs b c (T ++ [w]) := by
  show _ :: _ :: (T ++ [u]).set T.length w = _
  rw [List.set_append_right _ _ (Nat.le_refl _), Nat.sub_self]
  rfl
theorem dk_get1 {xs : List Int} {b c : Int} {T : Sg} {u v : Bool × Mo} : (deckS xs b c (T ++ [u, v]))[T.length + 3]? = some v := by
  show (T ++ [u, v])[T.length + 1]? = _
  simp
theorem dk_set1 {xs : List Int} {b c : Int} {T : Sg} {u v w : Bool × Mo} : (deckS xs b c (T ++ [u, v])).set (T.length + 3) w = deckS xs b c (T ++ [u, w]) := by
  show _ :: _ :: (T ++ [u, v]).set (T.length + 1) w = _
  rw [List.set_append_right _ _ (by omega), show T.length + 1 - T.length = 1 by omega]
  rfl
theorem deckS_len1 {xs : List Int} {b c : Int} {T : Sg} {u : Bool × Mo} : (deckS xs b c (T ++ [u])).length = T.length + 3 := by
  show (T ++ [u]).length + 1 + 1 = _
  simp
theorem dk_trim {xs : List Int} {b c : Int} {T U : Sg} {n : Nat} (hn : n = T.length + 2) (hU : U.all (·.1) = true) : trim n (deckS xs b c (T ++ U)) = deckS xs b c T := by
  rw [← dk_app]
  exact Q.trim_app (by rw [hn]; rfl) hU
theorem deck_spec {ns : List Int} (h : ns.length ≤ 63) : ∃ (xs : List Int) (b : Int), f_L_deck [.d (.list (ns.map PyData.int))] [] = .ok (.ref 1) (deckS xs b 0 []) ∧ xs.length ≤ 63 := by
  suffices e : ∃ b : Int, f_L_deck [.d (.list (ns.map PyData.int))] [] = .ok (.ref 1) (deckS ns.reverse b 0 []) from let ⟨b, e⟩ := e; ⟨_, b, e, by rw [List.length_reverse]; exact h⟩
  have hm : ∀ (ρ : Rho) (S : Sg), ρ.length = 3 → lcLoop (mgName 2) mYes e_L_deck_1 ρ ((ns.map PyData.int).map .d) [] S = .ok (((ns.map (· % 1000003)).map PyData.int).map .d) S := by
    intro ρ S hρ
    have := @Q.lc_mapF ρ S Int (mgName 2) e_L_deck_1 (fun n => .d (.int n)) (fun n => .d (.int (n % 1000003))) ns [] (fun a _ => ⟨ρ.set 2 (some (.d (.int a))), rfl, by
      obtain ⟨x, y, z, rfl⟩ : ∃ x y z, ρ = [x, y, z] := by
        match ρ, hρ with
        | [x, y, z], _ => exact ⟨x, y, z, rfl⟩
      unfold e_L_deck_1
      walk_at "mm", rfl⟩) (by rw [PySem.sizeLine_eq]; simp; omega)
    simpa [List.map_map, Function.comp_def] using this
  unfold f_L_deck m_L_deck deckS
  walk_at "mm"
  rw [show (63 : Int) = ((63 : Nat) : Int) from rfl, Q.cutL_to, List.take_of_length_le h, ← List.map_reverse, ← List.map_reverse, hm _ _ rfl]
  walk_at "mm"
  exact ⟨_, rfl⟩

/-! the deck as one thing -/
structure Dk where
  xs : List Int
  b : Int
  c : Int
  h : xs.length ≤ 63
def dS (D : Dk) (T : Sg) : Sg := deckS D.xs D.b D.c T
theorem dS_len {D : Dk} {T : Sg} : (dS D T).length = T.length + 2 := rfl
theorem dS_app {D : Dk} {T U : Sg} : dS D T ++ U = dS D (T ++ U) := rfl
theorem draw_ex (D : Dk) (k : Nat) : ∃ (r : Fin (k - 1 + 1)) (E : Dk), 0 < k → k < 2 ^ 30 → ∀ T, f_L_draw [.ref 1, .d (.int (k : Nat))] (dS D T) = .ok (.d (.int (r.val : Nat))) (dS E T) := by
  by_cases hk : 0 < k ∧ k < 2 ^ 30
  · obtain ⟨xs, b, c, hl⟩ := D
    suffices h : ∃ (z : Int) (ys : List Int) (c' : Int), (∀ T, f_L_draw [.ref 1, .d (.int (k : Nat))] (deckS xs b c T) = .ok (.d (.int (z % (k : Nat)))) (deckS ys b c' T)) ∧ ys.length ≤ 63 by
      obtain ⟨z, ys, c', h, hy⟩ := h
      have h0 := Int.emod_nonneg z (show ((k : Nat) : Int) ≠ 0 by omega)
      have h1 := Int.emod_lt_of_pos z (show (0 : Int) < (k : Nat) by omega)
      refine ⟨⟨(z % (k : Nat)).toNat, by omega⟩, ⟨ys, b, c', hy⟩, fun _ _ T => ?_⟩
      show f_L_draw _ (deckS xs b c T) = .ok (.d (.int (((z % (k : Nat)).toNat : Nat) : Int))) (deckS ys b c' T)
      rw [h T, Int.toNat_of_nonneg h0]
    obtain ⟨hk0, hk2⟩ := hk
    have hk' : (0 : Int) < (k : Nat) := by omega
    have hk3 : ((k : Nat) : Int) < 2 ^ 30 := by omega
    generalize ((k : Nat) : Int) = k at hk' hk3
    have p1 : ∀ z : Int, 0 ≤ z % 2147483647 ∧ z % 2147483647 < 2147483647 := fun z => ⟨Int.emod_nonneg _ (by decide), Int.emod_lt_of_pos _ (by decide)⟩
    have p2 : ∀ z : Int, 0 ≤ z % 2147483587 ∧ z % 2147483587 < 2147483587 := fun z => ⟨Int.emod_nonneg _ (by decide), Int.emod_lt_of_pos _ (by decide)⟩
    rcases List.eq_nil_or_concat xs with rfl | ⟨ys, x, rfl⟩
    · refine ⟨?z, [], c + 1, fun T => ?h, by simp⟩
      case h =>
        unfold f_L_draw m_L_draw deckS
        walk_at "mm"
        simp only [List.map_nil, List.isEmpty_nil, Bool.not_true]
        walk_at "mm"
        exact rfl
    · rw [List.concat_eq_append] at hl ⊢
      have hl' : ys.length < 63 := by simp at hl; omega
      have e1 : (List.map PyData.int (ys ++ [x])).isEmpty = false := by simp
      by_cases hx : x ≥ 10 ^ 18
      · refine ⟨x, ys ++ [x / k], c + 1, fun T => ?_, by simpa using hl⟩
        unfold f_L_draw m_L_draw deckS
        walk_at "mm"
        simp only [e1, Bool.not_false]
        walk_at "mm"
        have e2 : decide ((10 : Int) ^ Int.toNat 18 ≤ x) = true := decide_eq_true (by simpa using hx)
        simp only [e2]
        walk_at "mm"
      · refine ⟨?y, ys, c + 1, fun T => ?g, by omega⟩
        case g =>
          unfold f_L_draw m_L_draw deckS
          walk_at "mm"
          simp only [e1, Bool.not_false]
          walk_at "mm"
          have e2 : decide ((10 : Int) ^ Int.toNat 18 ≤ x) = false := decide_eq_false (by simpa using hx)
          simp only [e2]
          walk_at "mm"
          exact rfl
  · exact ⟨⟨0, by omega⟩, D, fun a b => absurd ⟨a, b⟩ hk⟩
noncomputable def dr (D : Dk) (k : Nat) : Fin (k - 1 + 1) := Classical.choose (draw_ex D k)
noncomputable def nx (D : Dk) (k : Nat) : Dk := Classical.choose (Classical.choose_spec (draw_ex D k))
theorem draw_nat {D : Dk} {T : Sg} {k : Nat} (h : 0 < k ∧ k < 2 ^ 30) : f_L_draw [.ref 1, .d (.int (k : Nat))] (dS D T) = .ok (.d (.int ((dr D k).val : Nat))) (dS (nx D k) T) :=
  Classical.choose_spec (Classical.choose_spec (draw_ex D k)) h.1 h.2 T
theorem draw_int {D : Dk} {T : Sg} {k : Int} (h : 0 < k ∧ k < 2 ^ 30) : f_L_draw [.ref 1, .d (.int k)] (dS D T) = .ok (.d (.int ((dr D k.toNat).val : Nat))) (dS (nx D k.toNat) T) := by
  obtain ⟨n, rfl⟩ : ∃ n : Nat, k = n := ⟨k.toNat, by omega⟩
  rw [Int.toNat_natCast]
  exact draw_nat ⟨by omega, by omega⟩

theorem deck_eq {ns : List Int} (h : ns.length ≤ 63) : ∃ D : Dk, f_L_deck [.d (.list (ns.map PyData.int))] [] = .ok (.ref 1) (dS D []) := by
  obtain ⟨xs, b, e, hx⟩ := deck_spec h
  exact ⟨⟨xs, b, 0, hx⟩, e⟩
theorem dS_get {D : Dk} {T : Sg} {i : Nat} : (dS D T)[i + 2]? = T[i]? := rfl
theorem dS_set {D : Dk} {T : Sg} {i : Nat} {w : Bool × Mo} : (dS D T).set (i + 2) w = dS D (T.set i w) := rfl
section
variable {T U : Sg} {u v w x : Bool × Mo}
theorem sg_app : T ++ U ++ [u] = T ++ (U ++ [u]) := List.append_assoc ..
theorem sg_app2 : T ++ U ++ [u, v] = T ++ (U ++ [u, v]) := List.append_assoc ..
theorem ag0 : (T ++ u :: U)[T.length]? = some u := by simp
theorem ag1 : (T ++ u :: v :: U)[T.length + 1]? = some v := by simp
theorem ag2 : (T ++ u :: v :: w :: U)[T.length + 2]? = some w := by simp
theorem ag3 : (T ++ u :: v :: w :: x :: U)[T.length + 3]? = some x := by simp
theorem as0 {z : Bool × Mo} : (T ++ u :: U).set T.length z = T ++ z :: U := by
  rw [List.set_append_right _ _ (Nat.le_refl _), Nat.sub_self]; rfl
theorem as1 {z : Bool × Mo} : (T ++ u :: v :: U).set (T.length + 1) z = T ++ u :: z :: U := by
  rw [List.set_append_right _ _ (by omega), show T.length + 1 - T.length = 1 by omega]; rfl
theorem as2 {z : Bool × Mo} : (T ++ u :: v :: w :: U).set (T.length + 2) z = T ++ u :: v :: z :: U := by
  rw [List.set_append_right _ _ (by omega), show T.length + 2 - T.length = 2 by omega]; rfl
theorem as3 {z : Bool × Mo} : (T ++ u :: v :: w :: x :: U).set (T.length + 3) z = T ++ u :: v :: w :: z :: U := by
  rw [List.set_append_right _ _ (by omega), show T.length + 3 - T.length = 3 by omega]; rfl
theorem al1 : (T ++ [u]).length + 2 = T.length + 3 := by simp
theorem al2 : (T ++ [u, v]).length + 2 = T.length + 4 := by simp
theorem al3 : (T ++ [u, v, w]).length + 2 = T.length + 5 := by simp
theorem dS_trim {D : Dk} (h : U.all (·.1) = true) : trim (T.length + 2) (dS D (T ++ U)) = dS D T := by
  rw [← dS_app]
  exact Q.trim_app rfl h
theorem dS_trim0 {D : Dk} : trim (T.length + 2) (dS D T) = dS D T := Q.trim_same rfl
theorem dS_trimc {D : Dk} (h : U.all (·.1) = true) : trim 2 (dS D U) = dS D [] := dS_trim (T := []) h
/-- many times something drawn -/
theorem lc_dk {T : Sg} {ρ : Rho} {g : MG} {te : ME} {R : Mv → Prop} {xs : List Mv} {D : Dk} (h : ∀ x ∈ xs, ∀ D, ∃ ρ1 y E, g (dS D T) x ρ = some ρ1 ∧ te ρ1 (dS D T) = .ok y (dS E T) ∧ y.free = true ∧ R y) (hl : xs.length ≤ 16777216) :
    ∃ ys E, lcLoop g mYes te ρ xs [] (dS D T) = .ok ys (dS E T) ∧ ys.length = xs.length ∧ ∀ y ∈ ys, R y := by
  obtain ⟨ys, S2, e, e1, e2, E, rfl⟩ := @Q.lc_ex ρ g te (fun S => ∃ D, S = dS D T) R xs [] (dS D T) (fun x hx S ⟨D, hD⟩ => by
    subst hD
    obtain ⟨ρ1, y, E, h1, h2, h3, h4⟩ := h x hx D
    exact ⟨ρ1, y, dS E T, h1, h2, h3, h4, E, rfl⟩) ⟨D, rfl⟩ (by rw [PySem.sizeLine_eq]; simpa using hl)
  exact ⟨ys, E, e, e1, e2⟩
end
theorem seq_to {a b : MS} {ρ ρ1 : Rho} {S S1 : Sg} {r : RS} (h : a ρ S = .nx ρ1 S1) (h2 : b ρ1 S1 = r) : mSeq a b ρ S = r := by rw [Q.ev_seq, h]; exact h2

end Law
end
section
set_option Elab.async false
set_option linter.all false
set_option maxRecDepth 100000
set_option maxHeartbeats 4000000
set_option autoImplicit false
namespace Law
open PySem PySem.Spec PyProof.Rows L2 MM
local macro_rules | `(tactic| walk_at "mm") => `(tactic| simp (disch := first | assumption | omega | exact MM.Q.shaped_int | exact MM.Q.shaped_nil | exact MM.Q.shaped_ints | exact MM.Q.shaped_bool | (refine of_eq_true (eq_true ?_); first | with_unfolding_all rfl | (simp only [MM.Q.free_d, MM.Q.free_ref, MM.Q.free_adr, MM.Q.frees_nil, MM.Q.frees_cons, MM.Q.frees_map, Bool.and_true, Bool.true_and]; done)) | (simp only [List.length_cons, List.length_nil, List.append_nil, List.map_cons, List.map_nil, List.length_append, List.length_map, List.length_reverse, MM.Q.dI_len, PySem.sizeLine_eq]; omega)) only [MM.Q.bind_ok, MM.Q.bind_exc, MM.Q.go_ok, MM.Q.go_exc, MM.Q.nox_ok, MM.Q.vr_some, MM.Q.ev_var, MM.Q.ev_c, MM.Q.ev_k, MM.Q.frzO_some, MM.Q.tupO_some, MM.Q.tupO_none, MM.Q.bear_val, MM.Q.bear_frz, MM.Q.bear_ref, MM.Q.bear_own, MM.Q.bear_tup, MM.Q.allD_nil, MM.Q.allD_cons, MM.Q.allD_map, MM.Q.bearO_some, MM.Q.ev_bin, MM.Q.ev_bin1, MM.Q.ev_bin2, MM.Q.add_int, MM.Q.sub_int, MM.Q.mul_int, MM.Q.mod_int, MM.Q.fdiv_int, MM.Q.pow_int, MM.Q.intB_int, MM.Q.datO_f, MM.Q.datO_t, MM.Q.data_d, MM.Q.data_ref, MM.Q.data_own, MM.Q.ev_eq_r, MM.Q.ev_eq_o, MM.Q.ev_eq_l, MM.Q.ev_eq_t, MM.Q.ev_eq_i, MM.Q.ev_eq_b, MM.Q.ev_eq_n, MM.Q.ev_eq_st, MM.Q.ev_eq_sf, MM.Q.eqO_some, MM.Q.eqC_t, MM.Q.eqC_f, MM.Q.eqv_nil, MM.Q.eqv_int, MM.Q.eqv_bool, MM.Q.in_str, MM.Q.notIn_str, MM.Q.is_bool, MM.Q.isnot_bool, MM.Q.tst_bool, MM.Q.ev_tst, MM.Q.ev_truth, MM.Q.ev_tru, MM.Q.truO_some, MM.Q.truth_bool, MM.Q.truth_int, MM.Q.truth_none, MM.Q.truth_list, MM.Q.truth_tup, MM.Q.ev_andB, MM.Q.ev_orB, MM.Q.ev_notB, MM.Q.andB_t, MM.Q.andB_f, MM.Q.orB_t, MM.Q.orB_f, MM.Q.ev_notB1, MM.Q.ev_and, MM.Q.ev_or, MM.Q.and_tB, MM.Q.and_fB, MM.Q.or_tB, MM.Q.or_fB, MM.Q.ev_not, MM.Q.ev_not1, MM.Q.notO_some, MM.Q.ev_ifE, MM.Q.ifE_t, MM.Q.ifE_f, MM.Q.ev_nil, MM.Q.ev_cons, MM.Q.ev_cons1, MM.Q.ev_cons2, MM.Q.ev_disp, MM.Q.disp_lst, MM.Q.disp_tup, MM.Q.frees_nil, MM.Q.frees_cons, MM.Q.free_d, MM.Q.free_ref, MM.Q.free_adr, MM.Q.dI_snoc, MM.Q.dI_len, MM.Q.allD_dI, MM.Q.dI_nil, MM.Q.allD_dIs, MM.Q.frees_map, MM.Q.ev_cb, MM.Q.ev_cb1, MM.Q.ev_call, MM.Q.ev_call1, MM.Q.ev_call0, MM.Q.ev_callK, MM.Q.ev_callK1, MM.Q.ev_callK2, MM.Q.ldd_some, MM.Q.laid_nil, MM.Q.laid_k, MM.Q.laid_p, MM.Q.ixO_some, MM.Q.ev_ix, MM.Q.ev_ix1, MM.Q.ev_ix2, MM.Q.ix_list, MM.Q.ix_tup, MM.Q.refS_lst, MM.Q.refS_tup, MM.Q.seq_ref, MM.Q.seq_own, MM.Q.seq_list, MM.Q.seq_tup, MM.Q.ixK_some, MM.Q.ix_ref, MM.Q.ix_own, MM.Q.listO_f, MM.Q.ev_list, MM.Q.at0, MM.Q.at1, MM.Q.at2, MM.Q.at3, MM.Q.at4, MM.Q.ixN0, MM.Q.ixN1, MM.Q.ixN2, MM.Q.ev_oN, MM.Q.ev_oS, MM.Q.oS_int, MM.Q.ev_sl, MM.Q.ev_sl1, MM.Q.ev_sl2, MM.Q.ev_sl3, MM.Q.ev_rev, MM.Q.rev_list, MM.Q.ev_bm, MM.Q.ev_bm1, MM.Q.cBM_t, MM.Q.ev_bm2, MM.Q.buO_some, MM.Q.ev_bu, MM.Q.ev_bu1, MM.Q.cBU_t, MM.Q.ev_bu2, MM.Q.ty_str, MM.Q.tyO_some, MM.Q.ty_ref, MM.Q.ty_own, MM.Q.ty_list, MM.Q.beq_ll, MM.Q.beq_ss, MM.Q.celO_some, MM.Q.cell_ref, MM.Q.cell_own, MM.Q.ev_append, MM.Q.appO_some, MM.Q.ev_extend, MM.Q.extO_some, MM.Q.ev_pop, MM.Q.popO_snoc, MM.Q.ev_ind, MM.Q.ev_ind1, MM.Q.ev_neg, MM.Q.neg_int, MM.Q.ev_iter, MM.Q.ev_it, MM.Q.itO_some, MM.Q.items_list, MM.Q.items_tup, MM.Q.ev_rg1, MM.Q.rg1_int, MM.Q.ev_lc, MM.Q.ev_lc1, MM.Q.ev_lc2, MM.Q.wipe_nil, MM.Q.wipe_cons, MM.Q.ev_seq, MM.Q.seq_nx, MM.Q.seq_rt, MM.Q.seq_exc, MM.Q.seq_bk, MM.Q.seq_ct, MM.Q.ev_asg, MM.Q.ev_asg1, MM.Q.nxO_some, MM.Q.mg_name, MM.Q.mg_nil, MM.Q.mg_consN, MM.Q.mg_tup, MM.Q.ev_expr, MM.Q.ev_expr1, MM.Q.ev_ret, MM.Q.ev_ret1, MM.Q.ev_retN, MM.Q.ev_skip, MM.Q.ev_brk, MM.Q.ev_cnt, MM.Q.ev_if, MM.Q.if_t, MM.Q.if_f, MM.Q.ev_for, MM.Q.ev_for1, MM.Q.ev_fz, MM.Q.fz_own, MM.Q.fzC_some, MM.Q.fzO_some, MM.Q.fz_d, MM.Q.fz_ref, MM.Q.stO_some, MM.Q.ev_st, MM.Q.ev_st1, MM.Q.ev_st2, MM.Q.ev_st3, MM.Q.ev_setIx, MM.Q.siO_some, MM.Q.ev_par, MM.Q.ev_par1, MM.Q.nones_zero, MM.Q.nones_succ, MM.Q.begin_eq,  MM.Q.ev_fn, MM.Q.fin_rt, MM.Q.fin_ref, MM.Q.fin_nx, MM.Q.trim_same, MM.Q.trim_app, MM.Q.ev_len, MM.Q.ev_lst_l, MM.Q.ev_lst_t, MM.Q.ev_lst_r, MM.Q.ev_lst_o, MM.Q.ev_l1, MM.Q.ev_sum, MM.Q.ev_all, MM.Q.ev_any, MM.Q.ev_isi, MM.Q.kind_str, MM.Q.kind_int, MM.Q.kind_bool, MM.Q.kind_none, MM.Q.kind_dict, MM.Q.kind_list, MM.Q.kind_tup, MM.Q.kit_ss, MM.Q.kit_is, MM.Q.kit_bs, MM.Q.kit_ns, MM.Q.kit_ds, MM.Q.kit_ls, MM.Q.kit_ts, MM.Q.ev_repr, MM.Q.ev_join, MM.Q.lenO_some, MM.Q.len_list, MM.Q.len_tup, MM.Q.lnO_some, MM.Q.len_ref, MM.Q.len_own, MM.Q.lisO_some, MM.Q.l1O_some, MM.Q.ints_map, MM.Q.bools_map, MM.Q.strs_map, MM.Q.isiO_some, MM.Q.jnO_some, MM.Q.len_st, MM.Q.add_st, MM.Q.mul_st, MM.Q.ix_st, MM.Q.sl_st, MM.Q.rev_st, MM.Q.eqv_st, MM.Q.st_dec, MM.Q.divmod_int, MM.Q.items_st, MM.Q.allD_mapf, MM.Q.strs_mapf, MM.Q.ints_mapf, MM.Q.bools_mapf, MM.Q.join_ones_some, MM.Q.sl_own, MM.Q.sl_ref, MM.Q.sl_list, MM.Q.slO_some, MM.Q.add_own, MM.Q.add_ref, MM.Q.add_list, MM.Q.catO_some, MM.Q.cutL_map, MM.Q.mg_tupL, MM.Q.ev_ch, MM.Q.ev_ch1, MM.Q.ev_ch2, MM.Q.ch_t, MM.Q.ch_f, MM.Q.ev_ch3, MM.Q.starts_str, MM.Q.ends_str, MM.Q.upper_str, MM.Q.part_str, MM.Q.ev_fmt, MM.Q.ev_fmtR, MM.Q.fmt_st, MM.Q.fmt_int, MM.Q.ev_js_nil, MM.Q.ev_js_cons, MM.Q.ev_js1, MM.Q.ev_js2, MM.Q.jsF_some, MM.Q.js_st, MM.Q.ev_pr_nil, MM.Q.ev_pr_cons, MM.Q.ev_pr1, MM.Q.ev_pr2, MM.Q.ev_pr3, MM.Q.ev_dct, MM.Q.ev_dct1, MM.Q.keys_one, MM.Q.dctF_one, MM.Q.tup_list, MM.Q.tup_tup, MM.Q.tup_st, MM.Q.lst_st, MM.Q.mul_list, MM.Q.mul_tup, MM.Q.ev_popK, MM.Q.in_own, MM.Q.in_ref, MM.Q.in_list, MM.Q.inO_t, MM.Q.inO_f, 
  List.map_cons, List.map_nil, List.length_cons, List.length_nil, List.append_nil, List.nil_append, List.cons_append, List.getElem?_cons_zero, List.getElem?_cons_succ, List.set_cons_zero, List.set_cons_succ, Bool.and_true, Bool.true_and, Option.bind_some, Option.map_some, Nat.reduceAdd, Nat.reduceSub, Nat.add_sub_cancel, Nat.sub_self])
--- imports sig
/-! marks drawn -/
theorem fgs_at {i : Int} (h : 0 ≤ i) (h2 : i < 32) : ∃ d, atI fgs i = some d ∧ d ∈ fgs := by
  obtain ⟨d, hd, e⟩ := Q.atI_mem (xs := fgs) h (by rw [fgs_len]; omega)
  exact ⟨d, e, hd⟩
theorem markB_of {l : List Nat} (h1 : l.length = 8) (h3 : ∀ c ∈ l, c ∈ fgs) : markB l = true := by
  unfold markB
  rw [decide_eq_true h1, Bool.true_and]
  exact List.all_eq_true.mpr fun c hc => decide_eq_true (h3 c hc)
theorem of_markB {l : List Nat} (h : markB l = true) : l.length = 8 ∧ ∀ c ∈ l, c ∈ fgs := by
  unfold markB at h
  simp only [Bool.and_eq_true, decide_eq_true_eq, List.all_eq_true] at h
  exact h

end Law
end
section
set_option Elab.async false
set_option linter.all false
set_option maxRecDepth 100000
set_option maxHeartbeats 4000000
set_option autoImplicit false
namespace Law
open PySem PySem.Spec PyProof.Rows L2 MM
local macro_rules | `(tactic| walk_at "mm") => `(tactic| simp (disch := first | assumption | omega | exact MM.Q.shaped_int | exact MM.Q.shaped_nil | exact MM.Q.shaped_ints | exact MM.Q.shaped_bool | (refine of_eq_true (eq_true ?_); first | with_unfolding_all rfl | (simp only [MM.Q.free_d, MM.Q.free_ref, MM.Q.free_adr, MM.Q.frees_nil, MM.Q.frees_cons, MM.Q.frees_map, Bool.and_true, Bool.true_and]; done)) | (simp only [List.length_cons, List.length_nil, List.append_nil, List.map_cons, List.map_nil, List.length_append, List.length_map, List.length_reverse, MM.Q.dI_len, PySem.sizeLine_eq]; omega)) only [MM.Q.bind_ok, MM.Q.bind_exc, MM.Q.go_ok, MM.Q.go_exc, MM.Q.nox_ok, MM.Q.vr_some, MM.Q.ev_var, MM.Q.ev_c, MM.Q.ev_k, MM.Q.frzO_some, MM.Q.tupO_some, MM.Q.tupO_none, MM.Q.bear_val, MM.Q.bear_frz, MM.Q.bear_ref, MM.Q.bear_own, MM.Q.bear_tup, MM.Q.allD_nil, MM.Q.allD_cons, MM.Q.allD_map, MM.Q.bearO_some, MM.Q.ev_bin, MM.Q.ev_bin1, MM.Q.ev_bin2, MM.Q.add_int, MM.Q.sub_int, MM.Q.mul_int, MM.Q.mod_int, MM.Q.fdiv_int, MM.Q.pow_int, MM.Q.intB_int, MM.Q.datO_f, MM.Q.datO_t, MM.Q.data_d, MM.Q.data_ref, MM.Q.data_own, MM.Q.ev_eq_r, MM.Q.ev_eq_o, MM.Q.ev_eq_l, MM.Q.ev_eq_t, MM.Q.ev_eq_i, MM.Q.ev_eq_b, MM.Q.ev_eq_n, MM.Q.ev_eq_st, MM.Q.ev_eq_sf, MM.Q.eqO_some, MM.Q.eqC_t, MM.Q.eqC_f, MM.Q.eqv_nil, MM.Q.eqv_int, MM.Q.eqv_bool, MM.Q.in_str, MM.Q.notIn_str, MM.Q.is_bool, MM.Q.isnot_bool, MM.Q.tst_bool, MM.Q.ev_tst, MM.Q.ev_truth, MM.Q.ev_tru, MM.Q.truO_some, MM.Q.truth_bool, MM.Q.truth_int, MM.Q.truth_none, MM.Q.truth_list, MM.Q.truth_tup, MM.Q.ev_andB, MM.Q.ev_orB, MM.Q.ev_notB, MM.Q.andB_t, MM.Q.andB_f, MM.Q.orB_t, MM.Q.orB_f, MM.Q.ev_notB1, MM.Q.ev_and, MM.Q.ev_or, MM.Q.and_tB, MM.Q.and_fB, MM.Q.or_tB, MM.Q.or_fB, MM.Q.ev_not, MM.Q.ev_not1, MM.Q.notO_some, MM.Q.ev_ifE, MM.Q.ifE_t, MM.Q.ifE_f, MM.Q.ev_nil, MM.Q.ev_cons, MM.Q.ev_cons1, MM.Q.ev_cons2, MM.Q.ev_disp, MM.Q.disp_lst, MM.Q.disp_tup, MM.Q.frees_nil, MM.Q.frees_cons, MM.Q.free_d, MM.Q.free_ref, MM.Q.free_adr, MM.Q.dI_snoc, MM.Q.dI_len, MM.Q.allD_dI, MM.Q.dI_nil, MM.Q.allD_dIs, MM.Q.frees_map, MM.Q.ev_cb, MM.Q.ev_cb1, MM.Q.ev_call, MM.Q.ev_call1, MM.Q.ev_call0, MM.Q.ev_callK, MM.Q.ev_callK1, MM.Q.ev_callK2, MM.Q.ldd_some, MM.Q.laid_nil, MM.Q.laid_k, MM.Q.laid_p, MM.Q.ixO_some, MM.Q.ev_ix, MM.Q.ev_ix1, MM.Q.ev_ix2, MM.Q.ix_list, MM.Q.ix_tup, MM.Q.refS_lst, MM.Q.refS_tup, MM.Q.seq_ref, MM.Q.seq_own, MM.Q.seq_list, MM.Q.seq_tup, MM.Q.ixK_some, MM.Q.ix_ref, MM.Q.ix_own, MM.Q.listO_f, MM.Q.ev_list, MM.Q.at0, MM.Q.at1, MM.Q.at2, MM.Q.at3, MM.Q.at4, MM.Q.ixN0, MM.Q.ixN1, MM.Q.ixN2, MM.Q.ev_oN, MM.Q.ev_oS, MM.Q.oS_int, MM.Q.ev_sl, MM.Q.ev_sl1, MM.Q.ev_sl2, MM.Q.ev_sl3, MM.Q.ev_rev, MM.Q.rev_list, MM.Q.ev_bm, MM.Q.ev_bm1, MM.Q.cBM_t, MM.Q.ev_bm2, MM.Q.buO_some, MM.Q.ev_bu, MM.Q.ev_bu1, MM.Q.cBU_t, MM.Q.ev_bu2, MM.Q.ty_str, MM.Q.tyO_some, MM.Q.ty_ref, MM.Q.ty_own, MM.Q.ty_list, MM.Q.beq_ll, MM.Q.beq_ss, MM.Q.celO_some, MM.Q.cell_ref, MM.Q.cell_own, MM.Q.ev_append, MM.Q.appO_some, MM.Q.ev_extend, MM.Q.extO_some, MM.Q.ev_pop, MM.Q.popO_snoc, MM.Q.ev_ind, MM.Q.ev_ind1, MM.Q.ev_neg, MM.Q.neg_int, MM.Q.ev_iter, MM.Q.ev_it, MM.Q.itO_some, MM.Q.items_list, MM.Q.items_tup, MM.Q.ev_rg1, MM.Q.rg1_int, MM.Q.ev_lc, MM.Q.ev_lc1, MM.Q.ev_lc2, MM.Q.wipe_nil, MM.Q.wipe_cons, MM.Q.ev_seq, MM.Q.seq_nx, MM.Q.seq_rt, MM.Q.seq_exc, MM.Q.seq_bk, MM.Q.seq_ct, MM.Q.ev_asg, MM.Q.ev_asg1, MM.Q.nxO_some, MM.Q.mg_name, MM.Q.mg_nil, MM.Q.mg_consN, MM.Q.mg_tup, MM.Q.ev_expr, MM.Q.ev_expr1, MM.Q.ev_ret, MM.Q.ev_ret1, MM.Q.ev_retN, MM.Q.ev_skip, MM.Q.ev_brk, MM.Q.ev_cnt, MM.Q.ev_if, MM.Q.if_t, MM.Q.if_f, MM.Q.ev_for, MM.Q.ev_for1, MM.Q.ev_fz, MM.Q.fz_own, MM.Q.fzC_some, MM.Q.fzO_some, MM.Q.fz_d, MM.Q.fz_ref, MM.Q.stO_some, MM.Q.ev_st, MM.Q.ev_st1, MM.Q.ev_st2, MM.Q.ev_st3, MM.Q.ev_setIx, MM.Q.siO_some, MM.Q.ev_par, MM.Q.ev_par1, MM.Q.nones_zero, MM.Q.nones_succ, MM.Q.begin_eq, draw_int, dS_len, dS_app, dS_get, dS_set, sg_app, sg_app2, ag0, ag1, ag2, ag3, as0, as1, as2, as3, al1, al2, al3, dS_trim, dS_trim0, dS_trimc, Int.reduceToNat, Int.toNat_natCast, List.length_map,  MM.Q.ev_fn, MM.Q.fin_rt, MM.Q.fin_ref, MM.Q.fin_nx, MM.Q.trim_same, MM.Q.trim_app, MM.Q.ev_len, MM.Q.ev_lst_l, MM.Q.ev_lst_t, MM.Q.ev_lst_r, MM.Q.ev_lst_o, MM.Q.ev_l1, MM.Q.ev_sum, MM.Q.ev_all, MM.Q.ev_any, MM.Q.ev_isi, MM.Q.kind_str, MM.Q.kind_int, MM.Q.kind_bool, MM.Q.kind_none, MM.Q.kind_dict, MM.Q.kind_list, MM.Q.kind_tup, MM.Q.kit_ss, MM.Q.kit_is, MM.Q.kit_bs, MM.Q.kit_ns, MM.Q.kit_ds, MM.Q.kit_ls, MM.Q.kit_ts, MM.Q.ev_repr, MM.Q.ev_join, MM.Q.lenO_some, MM.Q.len_list, MM.Q.len_tup, MM.Q.lnO_some, MM.Q.len_ref, MM.Q.len_own, MM.Q.lisO_some, MM.Q.l1O_some, MM.Q.ints_map, MM.Q.bools_map, MM.Q.strs_map, MM.Q.isiO_some, MM.Q.jnO_some, MM.Q.len_st, MM.Q.add_st, MM.Q.mul_st, MM.Q.ix_st, MM.Q.sl_st, MM.Q.rev_st, MM.Q.eqv_st, MM.Q.st_dec, MM.Q.divmod_int, MM.Q.items_st, MM.Q.allD_mapf, MM.Q.strs_mapf, MM.Q.ints_mapf, MM.Q.bools_mapf, MM.Q.join_ones_some, MM.Q.sl_own, MM.Q.sl_ref, MM.Q.sl_list, MM.Q.slO_some, MM.Q.add_own, MM.Q.add_ref, MM.Q.add_list, MM.Q.catO_some, MM.Q.cutL_map, MM.Q.mg_tupL, MM.Q.ev_ch, MM.Q.ev_ch1, MM.Q.ev_ch2, MM.Q.ch_t, MM.Q.ch_f, MM.Q.ev_ch3, MM.Q.starts_str, MM.Q.ends_str, MM.Q.upper_str, MM.Q.part_str, MM.Q.ev_fmt, MM.Q.ev_fmtR, MM.Q.fmt_st, MM.Q.fmt_int, MM.Q.ev_js_nil, MM.Q.ev_js_cons, MM.Q.ev_js1, MM.Q.ev_js2, MM.Q.jsF_some, MM.Q.js_st, MM.Q.ev_pr_nil, MM.Q.ev_pr_cons, MM.Q.ev_pr1, MM.Q.ev_pr2, MM.Q.ev_pr3, MM.Q.ev_dct, MM.Q.ev_dct1, MM.Q.keys_one, MM.Q.dctF_one, MM.Q.tup_list, MM.Q.tup_tup, MM.Q.tup_st, MM.Q.lst_st, MM.Q.mul_list, MM.Q.mul_tup, MM.Q.ev_popK, MM.Q.in_own, MM.Q.in_ref, MM.Q.in_list, MM.Q.inO_t, MM.Q.inO_f, 
  List.map_cons, List.map_nil, List.length_cons, List.length_nil, List.append_nil, List.nil_append, List.cons_append, List.getElem?_cons_zero, List.getElem?_cons_succ, List.set_cons_zero, List.set_cons_succ, Bool.and_true, Bool.true_and, Option.bind_some, Option.map_some, Nat.reduceAdd, Nat.reduceSub, Nat.add_sub_cancel, Nat.sub_self])
--- imports deck mk
theorem draw_figs {o2 : Option Mv} {D : Dk} {T : Sg} {js : List Mv} (hj : js.length ≤ 1000) :
    ∃ (ts : List Nat) (E : Dk), lcLoop (mgName 2) mYes e_L_like_mark_1 [some (.ref 1), some (mS fgs), o2] js [] (dS D T) = .ok (ts.map fun c => .d (.str (Q.st [c]))) (dS E T) ∧ ts.length = js.length ∧ (∀ d ∈ ts, d ∈ fgs) := by
  have h16 : sizeLine = 16777216 := PySem.sizeLine_eq
  have hs : fgs.length ≤ sizeLine := by rw [fgs_len]; omega
  obtain ⟨ys, E, e, e1, e2⟩ := @lc_dk T [some (.ref 1), some (mS fgs), o2] (mgName 2) e_L_like_mark_1 (fun y => ∃ d, d ∈ fgs ∧ y = .d (.str (Q.st [d]))) js D (fun x _ D => by
    obtain ⟨d, ed, hd⟩ := fgs_at (i := (dr D 32).val) (by omega) (by omega)
    refine ⟨[some (.ref 1), some (mS fgs), some x], .d (.str (Q.st [d])), nx D 32, rfl, ?_, rfl, d, hd, rfl⟩
    unfold e_L_like_mark_1
    walk_at "mm"
    rw [ed]
    walk_at "mm") (by omega)
  obtain ⟨ts, rfl, ht⟩ := Q.pick_all e2
  exact ⟨ts, E, e, by rw [← e1, List.length_map], ht⟩
theorem spec_like (D : Dk) (T : Sg) : ∃ (l : List Nat) (E : Dk), f_L_like_mark [.ref 1] (dS D T) = .ok (mS l) (dS E T) ∧ markB l = true := by
  have h16 : sizeLine = 16777216 := PySem.sizeLine_eq
  have hs : fgs.length ≤ sizeLine := by rw [fgs_len]; omega
  by_cases h0 : (dr D 4).val = 0
  · obtain ⟨d, ed, hd⟩ := fgs_at (i := (dr (nx D 4) 32).val) (by omega) (by omega)
    refine ⟨(List.replicate 8 [d]).flatten, nx (nx D 4) 32, ?_, markB_of (by simp) (fun x hx => ?_)⟩
    · unfold f_L_like_mark m_L_like_mark
      walk_at "mm"
      rw [lit_f]
      simp only [h0, Int.ofNat_zero, show ((0 : Nat) : Int) = 0 from rfl, beq_self_eq_true]
      walk_at "mm"
      rw [ed]
      walk_at "mm"
    · obtain ⟨l, hl, h⟩ := List.mem_flatten.mp hx
      rw [(List.mem_replicate.mp hl).2, List.mem_singleton] at h
      rw [h]; exact hd
  · obtain ⟨ts, E, e2, w2, g2⟩ := draw_figs (o2 := none) (D := nx D 4) (T := T) (js := rangeL 0 8) (by decide)
    refine ⟨ts, E, ?_, markB_of w2 g2⟩
    unfold f_L_like_mark m_L_like_mark
    walk_at "mm"
    rw [lit_f]
    simp only [beq_eq_false_iff_ne.mpr (show (((dr D 4).val : Nat) : Int) ≠ 0 by omega)]
    walk_at "mm"
    rw [e2]
    walk_at "mm"
    have ht : ts.length ≤ 16777216 := by rw [w2]; simp [rangeL]
    rw [lit_e]
    walk_at "mm"

end Law
end
section
set_option Elab.async false
set_option linter.all false
set_option maxRecDepth 100000
set_option maxHeartbeats 4000000
set_option autoImplicit false
namespace Law
open PySem PySem.Spec PyProof.Rows L2 MM
local macro_rules | `(tactic| walk_at "mm") => `(tactic| simp (disch := first | assumption | omega | exact MM.Q.shaped_int | exact MM.Q.shaped_nil | exact MM.Q.shaped_ints | exact MM.Q.shaped_bool | (refine of_eq_true (eq_true ?_); first | with_unfolding_all rfl | (simp only [MM.Q.free_d, MM.Q.free_ref, MM.Q.free_adr, MM.Q.frees_nil, MM.Q.frees_cons, MM.Q.frees_map, Bool.and_true, Bool.true_and]; done)) | (simp only [List.length_cons, List.length_nil, List.append_nil, List.map_cons, List.map_nil, List.length_append, List.length_map, List.length_reverse, MM.Q.dI_len, PySem.sizeLine_eq]; omega)) only [MM.Q.bind_ok, MM.Q.bind_exc, MM.Q.go_ok, MM.Q.go_exc, MM.Q.nox_ok, MM.Q.vr_some, MM.Q.ev_var, MM.Q.ev_c, MM.Q.ev_k, MM.Q.frzO_some, MM.Q.tupO_some, MM.Q.tupO_none, MM.Q.bear_val, MM.Q.bear_frz, MM.Q.bear_ref, MM.Q.bear_own, MM.Q.bear_tup, MM.Q.allD_nil, MM.Q.allD_cons, MM.Q.allD_map, MM.Q.bearO_some, MM.Q.ev_bin, MM.Q.ev_bin1, MM.Q.ev_bin2, MM.Q.add_int, MM.Q.sub_int, MM.Q.mul_int, MM.Q.mod_int, MM.Q.fdiv_int, MM.Q.pow_int, MM.Q.intB_int, MM.Q.datO_f, MM.Q.datO_t, MM.Q.data_d, MM.Q.data_ref, MM.Q.data_own, MM.Q.ev_eq_r, MM.Q.ev_eq_o, MM.Q.ev_eq_l, MM.Q.ev_eq_t, MM.Q.ev_eq_i, MM.Q.ev_eq_b, MM.Q.ev_eq_n, MM.Q.ev_eq_st, MM.Q.ev_eq_sf, MM.Q.eqO_some, MM.Q.eqC_t, MM.Q.eqC_f, MM.Q.eqv_nil, MM.Q.eqv_int, MM.Q.eqv_bool, MM.Q.in_str, MM.Q.notIn_str, MM.Q.is_bool, MM.Q.isnot_bool, MM.Q.tst_bool, MM.Q.ev_tst, MM.Q.ev_truth, MM.Q.ev_tru, MM.Q.truO_some, MM.Q.truth_bool, MM.Q.truth_int, MM.Q.truth_none, MM.Q.truth_list, MM.Q.truth_tup, MM.Q.ev_andB, MM.Q.ev_orB, MM.Q.ev_notB, MM.Q.andB_t, MM.Q.andB_f, MM.Q.orB_t, MM.Q.orB_f, MM.Q.ev_notB1, MM.Q.ev_and, MM.Q.ev_or, MM.Q.and_tB, MM.Q.and_fB, MM.Q.or_tB, MM.Q.or_fB, MM.Q.ev_not, MM.Q.ev_not1, MM.Q.notO_some, MM.Q.ev_ifE, MM.Q.ifE_t, MM.Q.ifE_f, MM.Q.ev_nil, MM.Q.ev_cons, MM.Q.ev_cons1, MM.Q.ev_cons2, MM.Q.ev_disp, MM.Q.disp_lst, MM.Q.disp_tup, MM.Q.frees_nil, MM.Q.frees_cons, MM.Q.free_d, MM.Q.free_ref, MM.Q.free_adr, MM.Q.dI_snoc, MM.Q.dI_len, MM.Q.allD_dI, MM.Q.dI_nil, MM.Q.allD_dIs, MM.Q.frees_map, MM.Q.ev_cb, MM.Q.ev_cb1, MM.Q.ev_call, MM.Q.ev_call1, MM.Q.ev_call0, MM.Q.ev_callK, MM.Q.ev_callK1, MM.Q.ev_callK2, MM.Q.ldd_some, MM.Q.laid_nil, MM.Q.laid_k, MM.Q.laid_p, MM.Q.ixO_some, MM.Q.ev_ix, MM.Q.ev_ix1, MM.Q.ev_ix2, MM.Q.ix_list, MM.Q.ix_tup, MM.Q.refS_lst, MM.Q.refS_tup, MM.Q.seq_ref, MM.Q.seq_own, MM.Q.seq_list, MM.Q.seq_tup, MM.Q.ixK_some, MM.Q.ix_ref, MM.Q.ix_own, MM.Q.listO_f, MM.Q.ev_list, MM.Q.at0, MM.Q.at1, MM.Q.at2, MM.Q.at3, MM.Q.at4, MM.Q.ixN0, MM.Q.ixN1, MM.Q.ixN2, MM.Q.ev_oN, MM.Q.ev_oS, MM.Q.oS_int, MM.Q.ev_sl, MM.Q.ev_sl1, MM.Q.ev_sl2, MM.Q.ev_sl3, MM.Q.ev_rev, MM.Q.rev_list, MM.Q.ev_bm, MM.Q.ev_bm1, MM.Q.cBM_t, MM.Q.ev_bm2, MM.Q.buO_some, MM.Q.ev_bu, MM.Q.ev_bu1, MM.Q.cBU_t, MM.Q.ev_bu2, MM.Q.ty_str, MM.Q.tyO_some, MM.Q.ty_ref, MM.Q.ty_own, MM.Q.ty_list, MM.Q.beq_ll, MM.Q.beq_ss, MM.Q.celO_some, MM.Q.cell_ref, MM.Q.cell_own, MM.Q.ev_append, MM.Q.appO_some, MM.Q.ev_extend, MM.Q.extO_some, MM.Q.ev_pop, MM.Q.popO_snoc, MM.Q.ev_ind, MM.Q.ev_ind1, MM.Q.ev_neg, MM.Q.neg_int, MM.Q.ev_iter, MM.Q.ev_it, MM.Q.itO_some, MM.Q.items_list, MM.Q.items_tup, MM.Q.ev_rg1, MM.Q.rg1_int, MM.Q.ev_lc, MM.Q.ev_lc1, MM.Q.ev_lc2, MM.Q.wipe_nil, MM.Q.wipe_cons, MM.Q.ev_seq, MM.Q.seq_nx, MM.Q.seq_rt, MM.Q.seq_exc, MM.Q.seq_bk, MM.Q.seq_ct, MM.Q.ev_asg, MM.Q.ev_asg1, MM.Q.nxO_some, MM.Q.mg_name, MM.Q.mg_nil, MM.Q.mg_consN, MM.Q.mg_tup, MM.Q.ev_expr, MM.Q.ev_expr1, MM.Q.ev_ret, MM.Q.ev_ret1, MM.Q.ev_retN, MM.Q.ev_skip, MM.Q.ev_brk, MM.Q.ev_cnt, MM.Q.ev_if, MM.Q.if_t, MM.Q.if_f, MM.Q.ev_for, MM.Q.ev_for1, MM.Q.ev_fz, MM.Q.fz_own, MM.Q.fzC_some, MM.Q.fzO_some, MM.Q.fz_d, MM.Q.fz_ref, MM.Q.stO_some, MM.Q.ev_st, MM.Q.ev_st1, MM.Q.ev_st2, MM.Q.ev_st3, MM.Q.ev_setIx, MM.Q.siO_some, MM.Q.ev_par, MM.Q.ev_par1, MM.Q.nones_zero, MM.Q.nones_succ, MM.Q.begin_eq, draw_int, dS_len, dS_app, dS_get, dS_set, sg_app, sg_app2, ag0, ag1, ag2, ag3, as0, as1, as2, as3, al1, al2, al3, dS_trim, dS_trim0, dS_trimc, Int.reduceToNat, Int.toNat_natCast, List.length_map,  MM.Q.ev_fn, MM.Q.fin_rt, MM.Q.fin_ref, MM.Q.fin_nx, MM.Q.trim_same, MM.Q.trim_app, MM.Q.ev_len, MM.Q.ev_lst_l, MM.Q.ev_lst_t, MM.Q.ev_lst_r, MM.Q.ev_lst_o, MM.Q.ev_l1, MM.Q.ev_sum, MM.Q.ev_all, MM.Q.ev_any, MM.Q.ev_isi, MM.Q.kind_str, MM.Q.kind_int, MM.Q.kind_bool, MM.Q.kind_none, MM.Q.kind_dict, MM.Q.kind_list, MM.Q.kind_tup, MM.Q.kit_ss, MM.Q.kit_is, MM.Q.kit_bs, MM.Q.kit_ns, MM.Q.kit_ds, MM.Q.kit_ls, MM.Q.kit_ts, MM.Q.ev_repr, MM.Q.ev_join, MM.Q.lenO_some, MM.Q.len_list, MM.Q.len_tup, MM.Q.lnO_some, MM.Q.len_ref, MM.Q.len_own, MM.Q.lisO_some, MM.Q.l1O_some, MM.Q.ints_map, MM.Q.bools_map, MM.Q.strs_map, MM.Q.isiO_some, MM.Q.jnO_some, MM.Q.len_st, MM.Q.add_st, MM.Q.mul_st, MM.Q.ix_st, MM.Q.sl_st, MM.Q.rev_st, MM.Q.eqv_st, MM.Q.st_dec, MM.Q.divmod_int, MM.Q.items_st, MM.Q.allD_mapf, MM.Q.strs_mapf, MM.Q.ints_mapf, MM.Q.bools_mapf, MM.Q.join_ones_some, MM.Q.sl_own, MM.Q.sl_ref, MM.Q.sl_list, MM.Q.slO_some, MM.Q.add_own, MM.Q.add_ref, MM.Q.add_list, MM.Q.catO_some, MM.Q.cutL_map, MM.Q.mg_tupL, MM.Q.ev_ch, MM.Q.ev_ch1, MM.Q.ev_ch2, MM.Q.ch_t, MM.Q.ch_f, MM.Q.ev_ch3, MM.Q.starts_str, MM.Q.ends_str, MM.Q.upper_str, MM.Q.part_str, MM.Q.ev_fmt, MM.Q.ev_fmtR, MM.Q.fmt_st, MM.Q.fmt_int, MM.Q.ev_js_nil, MM.Q.ev_js_cons, MM.Q.ev_js1, MM.Q.ev_js2, MM.Q.jsF_some, MM.Q.js_st, MM.Q.ev_pr_nil, MM.Q.ev_pr_cons, MM.Q.ev_pr1, MM.Q.ev_pr2, MM.Q.ev_pr3, MM.Q.ev_dct, MM.Q.ev_dct1, MM.Q.keys_one, MM.Q.dctF_one, MM.Q.tup_list, MM.Q.tup_tup, MM.Q.tup_st, MM.Q.lst_st, MM.Q.mul_list, MM.Q.mul_tup, MM.Q.ev_popK, MM.Q.in_own, MM.Q.in_ref, MM.Q.in_list, MM.Q.inO_t, MM.Q.inO_f, 
  List.map_cons, List.map_nil, List.length_cons, List.length_nil, List.append_nil, List.nil_append, List.cons_append, List.getElem?_cons_zero, List.getElem?_cons_succ, List.set_cons_zero, List.set_cons_succ, Bool.and_true, Bool.true_and, Option.bind_some, Option.map_some, Nat.reduceAdd, Nat.reduceSub, Nat.add_sub_cancel, Nat.sub_self])
--- imports deck good
theorem at14 {i : Int} (h : 0 ≤ i) (h2 : i < 14) : ∃ d, atI [101, 116, 111, 117, 65, 90, 48, 35, 45, 59, 32, 10, 97, 126] i = some d ∧ isG d = true := by
  obtain ⟨d, hd, e⟩ := Q.atI_mem (xs := [101, 116, 111, 117, 65, 90, 48, 35, 45, 59, 32, 10, 97, 126]) h (by simpa using h2)
  have : ∀ d ∈ [101, 116, 111, 117, 65, 90, 48, 35, 45, 59, 32, 10, 97, 126], isG d = true := by decide
  exact ⟨d, e, this d hd⟩
theorem spec_otherwise {l : List Nat} {n : Nat} (hl : Gd n l) (hn : n ≤ 100000) (D : Dk) (T : Sg) : ∃ (m : List Nat) (E : Dk), f_L_otherwise [.ref 1, mS l] (dS D T) = .ok (mS m) (dS E T) ∧ Gd (2 * n + 2) m := by
  have h16 : sizeLine = 16777216 := PySem.sizeLine_eq
  have hln := hl.len
  obtain ⟨d, ed, hd⟩ := at14 (i := (dr (nx (nx D 10) (l.length + 1)) 14).val) (by omega) (by omega)
  have m2 : -(2 ^ 63) ≤ (2 : Int) ∧ (2 : Int) < 2 ^ 63 ∧ (2 : Int).toNat * l.length ≤ sizeLine := ⟨by decide, by decide, by show 2 * l.length ≤ _; omega⟩
  have c1 : ∀ lo hi : Option Int, (Q.cutL l lo hi).length ≤ l.length := fun lo hi => Q.cutL_len
  have c2 : ∀ lo hi lo' hi' : Option Int, (Q.cutL (Q.cutL l lo hi) lo' hi').length ≤ l.length := fun lo hi lo' hi' => Nat.le_trans Q.cutL_len (c1 lo hi)
  generalize ha : (some (((dr (nx D 10) (l.length + 1)).val : Nat) : Int)) = at_
  have k1 := c1 none at_
  have k2 := c1 at_ none
  have k3 := c2 at_ none (some 1) none
  have k4 := c2 at_ none none (some 1)
  have k5 := c2 at_ none none (some 2)
  have k6 := c2 at_ none (some 2) none
  have g1 : Gd n (Q.cutL l none at_) := hl.cut
  have g2 : Gd n (Q.cutL l at_ none) := hl.cut
  suffices h : ∃ m, atI ([mS (Q.cutL l none at_ ++ Q.cutL (Q.cutL l at_ none) (some 1) none), mS (Q.cutL l none at_ ++ Q.cutL (Q.cutL l at_ none) none (some 1) ++ Q.cutL l at_ none), mS (l.map PyProof.Rows.up1),
      mS (Q.cutL l none at_ ++ [d] ++ Q.cutL (Q.cutL l at_ none) (some 1) none), mS (Q.cutL l none at_ ++ [d] ++ Q.cutL l at_ none), mS (l ++ [10]), mS (Q.cutL l none at_ ++ (Q.cutL (Q.cutL l at_ none) none (some 2)).reverse ++ Q.cutL (Q.cutL l at_ none) (some 2) none),
      mS (32 :: l), mS (List.replicate 2 l).flatten, mS l.reverse]) (((dr D 10).val : Nat) : Int) = some (mS m) ∧ Gd (2 * n + 2) m by
    obtain ⟨m, e, hm⟩ := h
    refine ⟨m, nx (nx (nx D 10) (l.length + 1)) 14, ?_, hm⟩
    unfold f_L_otherwise m_L_otherwise
    walk_at "mm"
    rw [show (l.length : Int) + 1 = ((l.length + 1 : Nat) : Int) by omega]
    walk_at "mm"
    rw [show Str.ofString "etouAZ0#-; \na~" = Q.st [101, 116, 111, 117, 65, 90, 48, 35, 45, 59, 32, 10, 97, 126] by decide +kernel]
    walk_at "mm"
    rw [ed]
    walk_at "mm"
    rw [ha]
    walk_at "mm"
    rw [show Str.ofString "\n" = Q.st [10] by decide +kernel, show Str.ofString " " = Q.st [32] by decide +kernel]
    rw [hl.gup (by omega)]
    walk_at "mm"
    rw [e]
    walk_at "mm"
  obtain ⟨y, hy, e⟩ := Q.atI_mem (xs := [mS (Q.cutL l none at_ ++ Q.cutL (Q.cutL l at_ none) (some 1) none), mS (Q.cutL l none at_ ++ Q.cutL (Q.cutL l at_ none) none (some 1) ++ Q.cutL l at_ none), mS (l.map PyProof.Rows.up1),
      mS (Q.cutL l none at_ ++ [d] ++ Q.cutL (Q.cutL l at_ none) (some 1) none), mS (Q.cutL l none at_ ++ [d] ++ Q.cutL l at_ none), mS (l ++ [10]), mS (Q.cutL l none at_ ++ (Q.cutL (Q.cutL l at_ none) none (some 2)).reverse ++ Q.cutL (Q.cutL l at_ none) (some 2) none),
      mS (32 :: l), mS (List.replicate 2 l).flatten, mS l.reverse]) (i := (((dr D 10).val : Nat) : Int)) (by omega) (by simp only [List.length_cons, List.length_nil]; omega)
  have fin : ∀ m : List Nat, m.length ≤ 2 * n + 2 → (∀ c ∈ m, c = d ∨ c = 10 ∨ c = 32 ∨ isG c = true) → y = mS m → ∃ m, atI _ (((dr D 10).val : Nat) : Int) = some (mS m) ∧ Gd (2 * n + 2) m := fun m h1 h2 h3 => ⟨m, by rw [e, h3], h1, fun c hc => by
    rcases h2 c hc with rfl | rfl | rfl | h
    · exact hd
    · decide
    · decide
    · exact h⟩
  simp only [List.mem_cons, List.not_mem_nil, or_false] at hy
  rcases hy with rfl | rfl | rfl | rfl | rfl | rfl | rfl | rfl | rfl | rfl
  · exact ⟨_, e, ((g1.app g2.cut)).mono (by omega)⟩
  · exact ⟨_, e, by
      have p1 : (Q.cutL (Q.cutL l at_ none) none (some 1)).length ≤ 1 := by rw [Q.cutL_one]; exact List.length_take_le ..
      have p2 : Gd 1 (Q.cutL (Q.cutL l at_ none) none (some 1)) := ⟨p1, g2.cut.all⟩
      exact ((g1.app p2).app g2).mono (by omega)⟩
  · exact ⟨_, e, hl.up.mono (by omega)⟩
  · exact ⟨_, e, ((g1.app (Gd.one hd)).app g2.cut).mono (by omega)⟩
  · exact ⟨_, e, ((g1.app (Gd.one hd)).app g2).mono (by omega)⟩
  · exact ⟨_, e, (hl.app (Gd.one (by decide))).mono (by omega)⟩
  · exact ⟨_, e, by
      have p1 : (Q.cutL (Q.cutL l at_ none) none (some 2)).length ≤ 2 := by rw [show (some (2 : Int)) = some ((2 : Nat) : Int) from rfl, Q.cutL_to]; exact List.length_take_le ..
      have p2 : Gd 2 (Q.cutL (Q.cutL l at_ none) none (some 2)).reverse := ⟨by rw [List.length_reverse]; exact p1, (g2.cut (lo := none) (hi := some 2)).rev.all⟩
      exact ((g1.app p2).app g2.cut).mono (by omega)⟩
  · exact ⟨_, e, ((Gd.one (by decide)).app hl).mono (by omega)⟩
  · exact ⟨_, e, hl.rep.mono (by omega)⟩
  · exact ⟨_, e, hl.rev.mono (by omega)⟩

end Law
end
section
set_option Elab.async false
set_option linter.all false
set_option maxRecDepth 100000
set_option maxHeartbeats 4000000
set_option autoImplicit false
namespace Law
open PySem PySem.Spec PyProof.Rows L2 MM
local macro_rules | `(tactic| walk_at "mm") => `(tactic| simp (disch := first | assumption | omega | exact MM.Q.shaped_int | exact MM.Q.shaped_nil | exact MM.Q.shaped_ints | exact MM.Q.shaped_bool | (refine of_eq_true (eq_true ?_); first | with_unfolding_all rfl | (simp only [MM.Q.free_d, MM.Q.free_ref, MM.Q.free_adr, MM.Q.frees_nil, MM.Q.frees_cons, MM.Q.frees_map, Bool.and_true, Bool.true_and]; done)) | (simp only [List.length_cons, List.length_nil, List.append_nil, List.map_cons, List.map_nil, List.length_append, List.length_map, List.length_reverse, MM.Q.dI_len, PySem.sizeLine_eq]; omega)) only [MM.Q.bind_ok, MM.Q.bind_exc, MM.Q.go_ok, MM.Q.go_exc, MM.Q.nox_ok, MM.Q.vr_some, MM.Q.ev_var, MM.Q.ev_c, MM.Q.ev_k, MM.Q.frzO_some, MM.Q.tupO_some, MM.Q.tupO_none, MM.Q.bear_val, MM.Q.bear_frz, MM.Q.bear_ref, MM.Q.bear_own, MM.Q.bear_tup, MM.Q.allD_nil, MM.Q.allD_cons, MM.Q.allD_map, MM.Q.bearO_some, MM.Q.ev_bin, MM.Q.ev_bin1, MM.Q.ev_bin2, MM.Q.add_int, MM.Q.sub_int, MM.Q.mul_int, MM.Q.mod_int, MM.Q.fdiv_int, MM.Q.pow_int, MM.Q.intB_int, MM.Q.datO_f, MM.Q.datO_t, MM.Q.data_d, MM.Q.data_ref, MM.Q.data_own, MM.Q.ev_eq_r, MM.Q.ev_eq_o, MM.Q.ev_eq_l, MM.Q.ev_eq_t, MM.Q.ev_eq_i, MM.Q.ev_eq_b, MM.Q.ev_eq_n, MM.Q.ev_eq_st, MM.Q.ev_eq_sf, MM.Q.eqO_some, MM.Q.eqC_t, MM.Q.eqC_f, MM.Q.eqv_nil, MM.Q.eqv_int, MM.Q.eqv_bool, MM.Q.in_str, MM.Q.notIn_str, MM.Q.is_bool, MM.Q.isnot_bool, MM.Q.tst_bool, MM.Q.ev_tst, MM.Q.ev_truth, MM.Q.ev_tru, MM.Q.truO_some, MM.Q.truth_bool, MM.Q.truth_int, MM.Q.truth_none, MM.Q.truth_list, MM.Q.truth_tup, MM.Q.ev_andB, MM.Q.ev_orB, MM.Q.ev_notB, MM.Q.andB_t, MM.Q.andB_f, MM.Q.orB_t, MM.Q.orB_f, MM.Q.ev_notB1, MM.Q.ev_and, MM.Q.ev_or, MM.Q.and_tB, MM.Q.and_fB, MM.Q.or_tB, MM.Q.or_fB, MM.Q.ev_not, MM.Q.ev_not1, MM.Q.notO_some, MM.Q.ev_ifE, MM.Q.ifE_t, MM.Q.ifE_f, MM.Q.ev_nil, MM.Q.ev_cons, MM.Q.ev_cons1, MM.Q.ev_cons2, MM.Q.ev_disp, MM.Q.disp_lst, MM.Q.disp_tup, MM.Q.frees_nil, MM.Q.frees_cons, MM.Q.free_d, MM.Q.free_ref, MM.Q.free_adr, MM.Q.dI_snoc, MM.Q.dI_len, MM.Q.allD_dI, MM.Q.dI_nil, MM.Q.allD_dIs, MM.Q.frees_map, MM.Q.ev_cb, MM.Q.ev_cb1, MM.Q.ev_call, MM.Q.ev_call1, MM.Q.ev_call0, MM.Q.ev_callK, MM.Q.ev_callK1, MM.Q.ev_callK2, MM.Q.ldd_some, MM.Q.laid_nil, MM.Q.laid_k, MM.Q.laid_p, MM.Q.ixO_some, MM.Q.ev_ix, MM.Q.ev_ix1, MM.Q.ev_ix2, MM.Q.ix_list, MM.Q.ix_tup, MM.Q.refS_lst, MM.Q.refS_tup, MM.Q.seq_ref, MM.Q.seq_own, MM.Q.seq_list, MM.Q.seq_tup, MM.Q.ixK_some, MM.Q.ix_ref, MM.Q.ix_own, MM.Q.listO_f, MM.Q.ev_list, MM.Q.at0, MM.Q.at1, MM.Q.at2, MM.Q.at3, MM.Q.at4, MM.Q.ixN0, MM.Q.ixN1, MM.Q.ixN2, MM.Q.ev_oN, MM.Q.ev_oS, MM.Q.oS_int, MM.Q.ev_sl, MM.Q.ev_sl1, MM.Q.ev_sl2, MM.Q.ev_sl3, MM.Q.ev_rev, MM.Q.rev_list, MM.Q.ev_bm, MM.Q.ev_bm1, MM.Q.cBM_t, MM.Q.ev_bm2, MM.Q.buO_some, MM.Q.ev_bu, MM.Q.ev_bu1, MM.Q.cBU_t, MM.Q.ev_bu2, MM.Q.ty_str, MM.Q.tyO_some, MM.Q.ty_ref, MM.Q.ty_own, MM.Q.ty_list, MM.Q.beq_ll, MM.Q.beq_ss, MM.Q.celO_some, MM.Q.cell_ref, MM.Q.cell_own, MM.Q.ev_append, MM.Q.appO_some, MM.Q.ev_extend, MM.Q.extO_some, MM.Q.ev_pop, MM.Q.popO_snoc, MM.Q.ev_ind, MM.Q.ev_ind1, MM.Q.ev_neg, MM.Q.neg_int, MM.Q.ev_iter, MM.Q.ev_it, MM.Q.itO_some, MM.Q.items_list, MM.Q.items_tup, MM.Q.ev_rg1, MM.Q.rg1_int, MM.Q.ev_lc, MM.Q.ev_lc1, MM.Q.ev_lc2, MM.Q.wipe_nil, MM.Q.wipe_cons, MM.Q.ev_seq, MM.Q.seq_nx, MM.Q.seq_rt, MM.Q.seq_exc, MM.Q.seq_bk, MM.Q.seq_ct, MM.Q.ev_asg, MM.Q.ev_asg1, MM.Q.nxO_some, MM.Q.mg_name, MM.Q.mg_nil, MM.Q.mg_consN, MM.Q.mg_tup, MM.Q.ev_expr, MM.Q.ev_expr1, MM.Q.ev_ret, MM.Q.ev_ret1, MM.Q.ev_retN, MM.Q.ev_skip, MM.Q.ev_brk, MM.Q.ev_cnt, MM.Q.ev_if, MM.Q.if_t, MM.Q.if_f, MM.Q.ev_for, MM.Q.ev_for1, MM.Q.ev_fz, MM.Q.fz_own, MM.Q.fzC_some, MM.Q.fzO_some, MM.Q.fz_d, MM.Q.fz_ref, MM.Q.stO_some, MM.Q.ev_st, MM.Q.ev_st1, MM.Q.ev_st2, MM.Q.ev_st3, MM.Q.ev_setIx, MM.Q.siO_some, MM.Q.ev_par, MM.Q.ev_par1, MM.Q.nones_zero, MM.Q.nones_succ, MM.Q.begin_eq, draw_int, dS_len, dS_app, dS_get, dS_set, sg_app, sg_app2, ag0, ag1, ag2, ag3, as0, as1, as2, as3, al1, al2, al3, dS_trim, dS_trim0, dS_trimc, Int.reduceToNat, Int.toNat_natCast, List.length_map,  MM.Q.ev_fn, MM.Q.fin_rt, MM.Q.fin_ref, MM.Q.fin_nx, MM.Q.trim_same, MM.Q.trim_app, MM.Q.ev_len, MM.Q.ev_lst_l, MM.Q.ev_lst_t, MM.Q.ev_lst_r, MM.Q.ev_lst_o, MM.Q.ev_l1, MM.Q.ev_sum, MM.Q.ev_all, MM.Q.ev_any, MM.Q.ev_isi, MM.Q.kind_str, MM.Q.kind_int, MM.Q.kind_bool, MM.Q.kind_none, MM.Q.kind_dict, MM.Q.kind_list, MM.Q.kind_tup, MM.Q.kit_ss, MM.Q.kit_is, MM.Q.kit_bs, MM.Q.kit_ns, MM.Q.kit_ds, MM.Q.kit_ls, MM.Q.kit_ts, MM.Q.ev_repr, MM.Q.ev_join, MM.Q.lenO_some, MM.Q.len_list, MM.Q.len_tup, MM.Q.lnO_some, MM.Q.len_ref, MM.Q.len_own, MM.Q.lisO_some, MM.Q.l1O_some, MM.Q.ints_map, MM.Q.bools_map, MM.Q.strs_map, MM.Q.isiO_some, MM.Q.jnO_some, MM.Q.len_st, MM.Q.add_st, MM.Q.mul_st, MM.Q.ix_st, MM.Q.sl_st, MM.Q.rev_st, MM.Q.eqv_st, MM.Q.st_dec, MM.Q.divmod_int, MM.Q.items_st, MM.Q.allD_mapf, MM.Q.strs_mapf, MM.Q.ints_mapf, MM.Q.bools_mapf, MM.Q.join_ones_some, MM.Q.sl_own, MM.Q.sl_ref, MM.Q.sl_list, MM.Q.slO_some, MM.Q.add_own, MM.Q.add_ref, MM.Q.add_list, MM.Q.catO_some, MM.Q.cutL_map, MM.Q.mg_tupL, MM.Q.ev_ch, MM.Q.ev_ch1, MM.Q.ev_ch2, MM.Q.ch_t, MM.Q.ch_f, MM.Q.ev_ch3, MM.Q.starts_str, MM.Q.ends_str, MM.Q.upper_str, MM.Q.part_str, MM.Q.ev_fmt, MM.Q.ev_fmtR, MM.Q.fmt_st, MM.Q.fmt_int, MM.Q.ev_js_nil, MM.Q.ev_js_cons, MM.Q.ev_js1, MM.Q.ev_js2, MM.Q.jsF_some, MM.Q.js_st, MM.Q.ev_pr_nil, MM.Q.ev_pr_cons, MM.Q.ev_pr1, MM.Q.ev_pr2, MM.Q.ev_pr3, MM.Q.ev_dct, MM.Q.ev_dct1, MM.Q.keys_one, MM.Q.dctF_one, MM.Q.tup_list, MM.Q.tup_tup, MM.Q.tup_st, MM.Q.lst_st, MM.Q.mul_list, MM.Q.mul_tup, MM.Q.ev_popK, MM.Q.in_own, MM.Q.in_ref, MM.Q.in_list, MM.Q.inO_t, MM.Q.inO_f, 
  List.map_cons, List.map_nil, List.length_cons, List.length_nil, List.append_nil, List.nil_append, List.cons_append, List.getElem?_cons_zero, List.getElem?_cons_succ, List.set_cons_zero, List.set_cons_succ, Bool.and_true, Bool.true_and, Option.bind_some, Option.map_some, Nat.reduceAdd, Nat.reduceSub, Nat.add_sub_cancel, Nat.sub_self])
--- imports sig deck
theorem spec_L_signs {S : Sg} : f_L_signs [] S = .ok (mS sgs) S := by
  unfold f_L_signs m_L_signs
  have h16 : sizeLine = 16777216 := PySem.sizeLine_eq
  have e1 : (sgs.take 65).length = 65 := by decide
  have e2 : (sgs.drop 65).length = 30 := by decide
  rw [show (Str.ofString "\n !\"#$&'()*+,-./0123456789:;<=>?@ABCDEFGHIJKLMNOPQRSTUVWXYZ[\\]^_`") = Q.st (sgs.take 65) by decide +kernel, show (Str.ofString "abcdefghijklmnopqrstuvwxyz{|}~") = Q.st (sgs.drop 65) by decide +kernel]
  walk_at "mm"
  rw [List.take_append_drop]

end Law
end
section
set_option Elab.async false
set_option linter.all false
set_option maxRecDepth 100000
set_option maxHeartbeats 4000000
set_option autoImplicit false
namespace Law
open PySem PySem.Spec PyProof.Rows L2 MM
local macro_rules | `(tactic| walk_at "mm") => `(tactic| simp (disch := first | assumption | omega | exact MM.Q.shaped_int | exact MM.Q.shaped_nil | exact MM.Q.shaped_ints | exact MM.Q.shaped_bool | (refine of_eq_true (eq_true ?_); first | with_unfolding_all rfl | (simp only [MM.Q.free_d, MM.Q.free_ref, MM.Q.free_adr, MM.Q.frees_nil, MM.Q.frees_cons, MM.Q.frees_map, Bool.and_true, Bool.true_and]; done)) | (simp only [List.length_cons, List.length_nil, List.append_nil, List.map_cons, List.map_nil, List.length_append, List.length_map, List.length_reverse, MM.Q.dI_len, PySem.sizeLine_eq]; omega)) only [MM.Q.bind_ok, MM.Q.bind_exc, MM.Q.go_ok, MM.Q.go_exc, MM.Q.nox_ok, MM.Q.vr_some, MM.Q.ev_var, MM.Q.ev_c, MM.Q.ev_k, MM.Q.frzO_some, MM.Q.tupO_some, MM.Q.tupO_none, MM.Q.bear_val, MM.Q.bear_frz, MM.Q.bear_ref, MM.Q.bear_own, MM.Q.bear_tup, MM.Q.allD_nil, MM.Q.allD_cons, MM.Q.allD_map, MM.Q.bearO_some, MM.Q.ev_bin, MM.Q.ev_bin1, MM.Q.ev_bin2, MM.Q.add_int, MM.Q.sub_int, MM.Q.mul_int, MM.Q.mod_int, MM.Q.fdiv_int, MM.Q.pow_int, MM.Q.intB_int, MM.Q.datO_f, MM.Q.datO_t, MM.Q.data_d, MM.Q.data_ref, MM.Q.data_own, MM.Q.ev_eq_r, MM.Q.ev_eq_o, MM.Q.ev_eq_l, MM.Q.ev_eq_t, MM.Q.ev_eq_i, MM.Q.ev_eq_b, MM.Q.ev_eq_n, MM.Q.ev_eq_st, MM.Q.ev_eq_sf, MM.Q.eqO_some, MM.Q.eqC_t, MM.Q.eqC_f, MM.Q.eqv_nil, MM.Q.eqv_int, MM.Q.eqv_bool, MM.Q.in_str, MM.Q.notIn_str, MM.Q.is_bool, MM.Q.isnot_bool, MM.Q.tst_bool, MM.Q.ev_tst, MM.Q.ev_truth, MM.Q.ev_tru, MM.Q.truO_some, MM.Q.truth_bool, MM.Q.truth_int, MM.Q.truth_none, MM.Q.truth_list, MM.Q.truth_tup, MM.Q.ev_andB, MM.Q.ev_orB, MM.Q.ev_notB, MM.Q.andB_t, MM.Q.andB_f, MM.Q.orB_t, MM.Q.orB_f, MM.Q.ev_notB1, MM.Q.ev_and, MM.Q.ev_or, MM.Q.and_tB, MM.Q.and_fB, MM.Q.or_tB, MM.Q.or_fB, MM.Q.ev_not, MM.Q.ev_not1, MM.Q.notO_some, MM.Q.ev_ifE, MM.Q.ifE_t, MM.Q.ifE_f, MM.Q.ev_nil, MM.Q.ev_cons, MM.Q.ev_cons1, MM.Q.ev_cons2, MM.Q.ev_disp, MM.Q.disp_lst, MM.Q.disp_tup, MM.Q.frees_nil, MM.Q.frees_cons, MM.Q.free_d, MM.Q.free_ref, MM.Q.free_adr, MM.Q.dI_snoc, MM.Q.dI_len, MM.Q.allD_dI, MM.Q.dI_nil, MM.Q.allD_dIs, MM.Q.frees_map, MM.Q.ev_cb, MM.Q.ev_cb1, MM.Q.ev_call, MM.Q.ev_call1, MM.Q.ev_call0, MM.Q.ev_callK, MM.Q.ev_callK1, MM.Q.ev_callK2, MM.Q.ldd_some, MM.Q.laid_nil, MM.Q.laid_k, MM.Q.laid_p, MM.Q.ixO_some, MM.Q.ev_ix, MM.Q.ev_ix1, MM.Q.ev_ix2, MM.Q.ix_list, MM.Q.ix_tup, MM.Q.refS_lst, MM.Q.refS_tup, MM.Q.seq_ref, MM.Q.seq_own, MM.Q.seq_list, MM.Q.seq_tup, MM.Q.ixK_some, MM.Q.ix_ref, MM.Q.ix_own, MM.Q.listO_f, MM.Q.ev_list, MM.Q.at0, MM.Q.at1, MM.Q.at2, MM.Q.at3, MM.Q.at4, MM.Q.ixN0, MM.Q.ixN1, MM.Q.ixN2, MM.Q.ev_oN, MM.Q.ev_oS, MM.Q.oS_int, MM.Q.ev_sl, MM.Q.ev_sl1, MM.Q.ev_sl2, MM.Q.ev_sl3, MM.Q.ev_rev, MM.Q.rev_list, MM.Q.ev_bm, MM.Q.ev_bm1, MM.Q.cBM_t, MM.Q.ev_bm2, MM.Q.buO_some, MM.Q.ev_bu, MM.Q.ev_bu1, MM.Q.cBU_t, MM.Q.ev_bu2, MM.Q.ty_str, MM.Q.tyO_some, MM.Q.ty_ref, MM.Q.ty_own, MM.Q.ty_list, MM.Q.beq_ll, MM.Q.beq_ss, MM.Q.celO_some, MM.Q.cell_ref, MM.Q.cell_own, MM.Q.ev_append, MM.Q.appO_some, MM.Q.ev_extend, MM.Q.extO_some, MM.Q.ev_pop, MM.Q.popO_snoc, MM.Q.ev_ind, MM.Q.ev_ind1, MM.Q.ev_neg, MM.Q.neg_int, MM.Q.ev_iter, MM.Q.ev_it, MM.Q.itO_some, MM.Q.items_list, MM.Q.items_tup, MM.Q.ev_rg1, MM.Q.rg1_int, MM.Q.ev_lc, MM.Q.ev_lc1, MM.Q.ev_lc2, MM.Q.wipe_nil, MM.Q.wipe_cons, MM.Q.ev_seq, MM.Q.seq_nx, MM.Q.seq_rt, MM.Q.seq_exc, MM.Q.seq_bk, MM.Q.seq_ct, MM.Q.ev_asg, MM.Q.ev_asg1, MM.Q.nxO_some, MM.Q.mg_name, MM.Q.mg_nil, MM.Q.mg_consN, MM.Q.mg_tup, MM.Q.ev_expr, MM.Q.ev_expr1, MM.Q.ev_ret, MM.Q.ev_ret1, MM.Q.ev_retN, MM.Q.ev_skip, MM.Q.ev_brk, MM.Q.ev_cnt, MM.Q.ev_if, MM.Q.if_t, MM.Q.if_f, MM.Q.ev_for, MM.Q.ev_for1, MM.Q.ev_fz, MM.Q.fz_own, MM.Q.fzC_some, MM.Q.fzO_some, MM.Q.fz_d, MM.Q.fz_ref, MM.Q.stO_some, MM.Q.ev_st, MM.Q.ev_st1, MM.Q.ev_st2, MM.Q.ev_st3, MM.Q.ev_setIx, MM.Q.siO_some, MM.Q.ev_par, MM.Q.ev_par1, MM.Q.nones_zero, MM.Q.nones_succ, MM.Q.begin_eq, draw_int, dS_len, dS_app, dS_get, dS_set, sg_app, sg_app2, ag0, ag1, ag2, ag3, as0, as1, as2, as3, al1, al2, al3, dS_trim, dS_trim0, dS_trimc, Int.reduceToNat, Int.toNat_natCast, List.length_map, spec_L_signs,  MM.Q.ev_fn, MM.Q.fin_rt, MM.Q.fin_ref, MM.Q.fin_nx, MM.Q.trim_same, MM.Q.trim_app, MM.Q.ev_len, MM.Q.ev_lst_l, MM.Q.ev_lst_t, MM.Q.ev_lst_r, MM.Q.ev_lst_o, MM.Q.ev_l1, MM.Q.ev_sum, MM.Q.ev_all, MM.Q.ev_any, MM.Q.ev_isi, MM.Q.kind_str, MM.Q.kind_int, MM.Q.kind_bool, MM.Q.kind_none, MM.Q.kind_dict, MM.Q.kind_list, MM.Q.kind_tup, MM.Q.kit_ss, MM.Q.kit_is, MM.Q.kit_bs, MM.Q.kit_ns, MM.Q.kit_ds, MM.Q.kit_ls, MM.Q.kit_ts, MM.Q.ev_repr, MM.Q.ev_join, MM.Q.lenO_some, MM.Q.len_list, MM.Q.len_tup, MM.Q.lnO_some, MM.Q.len_ref, MM.Q.len_own, MM.Q.lisO_some, MM.Q.l1O_some, MM.Q.ints_map, MM.Q.bools_map, MM.Q.strs_map, MM.Q.isiO_some, MM.Q.jnO_some, MM.Q.len_st, MM.Q.add_st, MM.Q.mul_st, MM.Q.ix_st, MM.Q.sl_st, MM.Q.rev_st, MM.Q.eqv_st, MM.Q.st_dec, MM.Q.divmod_int, MM.Q.items_st, MM.Q.allD_mapf, MM.Q.strs_mapf, MM.Q.ints_mapf, MM.Q.bools_mapf, MM.Q.join_ones_some, MM.Q.sl_own, MM.Q.sl_ref, MM.Q.sl_list, MM.Q.slO_some, MM.Q.add_own, MM.Q.add_ref, MM.Q.add_list, MM.Q.catO_some, MM.Q.cutL_map, MM.Q.mg_tupL, MM.Q.ev_ch, MM.Q.ev_ch1, MM.Q.ev_ch2, MM.Q.ch_t, MM.Q.ch_f, MM.Q.ev_ch3, MM.Q.starts_str, MM.Q.ends_str, MM.Q.upper_str, MM.Q.part_str, MM.Q.ev_fmt, MM.Q.ev_fmtR, MM.Q.fmt_st, MM.Q.fmt_int, MM.Q.ev_js_nil, MM.Q.ev_js_cons, MM.Q.ev_js1, MM.Q.ev_js2, MM.Q.jsF_some, MM.Q.js_st, MM.Q.ev_pr_nil, MM.Q.ev_pr_cons, MM.Q.ev_pr1, MM.Q.ev_pr2, MM.Q.ev_pr3, MM.Q.ev_dct, MM.Q.ev_dct1, MM.Q.keys_one, MM.Q.dctF_one, MM.Q.tup_list, MM.Q.tup_tup, MM.Q.tup_st, MM.Q.lst_st, MM.Q.mul_list, MM.Q.mul_tup, MM.Q.ev_popK, MM.Q.in_own, MM.Q.in_ref, MM.Q.in_list, MM.Q.inO_t, MM.Q.inO_f, 
  List.map_cons, List.map_nil, List.length_cons, List.length_nil, List.append_nil, List.nil_append, List.cons_append, List.getElem?_cons_zero, List.getElem?_cons_succ, List.set_cons_zero, List.set_cons_succ, Bool.and_true, Bool.true_and, Option.bind_some, Option.map_some, Nat.reduceAdd, Nat.reduceSub, Nat.add_sub_cancel, Nat.sub_self])
--- imports deck good lsigns
theorem sgs_Gd : Gd 95 sgs := ⟨by decide, fun c hc => by rw [← isG_mem]; exact decide_eq_true hc⟩
theorem spec_thing_text (D : Dk) (T : Sg) : ∃ (m : List Nat) (E : Dk), f_L_thing_text [.ref 1] (dS D T) = .ok (mS m) (dS E T) ∧ Gd 12160 m := by
  have h16 : sizeLine = 16777216 := PySem.sizeLine_eq
  have hs := sgs_len
  have c1 : ∀ lo hi : Option Int, (Q.cutL sgs lo hi).length ≤ sgs.length := fun lo hi => Q.cutL_len
  obtain ⟨y, hy, e⟩ := Q.atI_mem (xs := [Mv.d (.int 399), .d (.int 400), .d (.int 401), .d (.int 402), .d (.int 800), .d (.int 6000), .d (.int (((dr (nx D 94) 402).val : Nat) : Int))]) (i := (((dr (nx (nx D 94) 402) 7).val : Nat) : Int)) (by omega) (by simp only [List.length_cons, List.length_nil]; omega)
  obtain ⟨k, rfl⟩ : ∃ k : Int, y = .d (.int k) := by
    simp only [List.mem_cons, List.not_mem_nil, or_false] at hy
    rcases hy with rfl | rfl | rfl | rfl | rfl | rfl | rfl <;> exact ⟨_, rfl⟩
  generalize ha : (some (((dr D 94).val : Nat) : Int)) = at_
  have k1 := c1 none at_
  have k2 := c1 at_ none
  have g : Gd 190 (Q.cutL sgs at_ none ++ Q.cutL sgs none at_) := sgs_Gd.cut.app sgs_Gd.cut
  have m2 : -(2 ^ 63) ≤ (64 : Int) ∧ (64 : Int) < 2 ^ 63 ∧ (64 : Int).toNat * (Q.cutL sgs at_ none ++ Q.cutL sgs none at_).length ≤ sizeLine := ⟨by decide, by decide, by show 64 * _ ≤ _; have := g.len; omega⟩
  have g2 := g.rep (k := 64)
  have k3 : (List.replicate 64 (Q.cutL sgs at_ none ++ Q.cutL sgs none at_)).flatten.length ≤ sizeLine := by have := g2.len; omega
  refine ⟨Q.cutL (List.replicate 64 (Q.cutL sgs at_ none ++ Q.cutL sgs none at_)).flatten none (some k), nx (nx (nx D 94) 402) 7, ?_, g2.cut⟩
  unfold f_L_thing_text m_L_thing_text
  walk_at "mm"
  rw [e]
  walk_at "mm"
  rw [ha]
  walk_at "mm"

end Law
end
section
set_option Elab.async false
set_option linter.all false
set_option maxRecDepth 100000
set_option maxHeartbeats 4000000
set_option autoImplicit false
namespace Law
open PySem PySem.Spec PyProof.Rows L2 MM
local macro_rules | `(tactic| walk_at "mm") => `(tactic| simp (disch := first | assumption | omega | exact MM.Q.shaped_int | exact MM.Q.shaped_nil | exact MM.Q.shaped_ints | exact MM.Q.shaped_bool | (refine of_eq_true (eq_true ?_); first | with_unfolding_all rfl | (simp only [MM.Q.free_d, MM.Q.free_ref, MM.Q.free_adr, MM.Q.frees_nil, MM.Q.frees_cons, MM.Q.frees_map, Bool.and_true, Bool.true_and]; done)) | (simp only [List.length_cons, List.length_nil, List.append_nil, List.map_cons, List.map_nil, List.length_append, List.length_map, List.length_reverse, MM.Q.dI_len, PySem.sizeLine_eq]; omega)) only [MM.Q.bind_ok, MM.Q.bind_exc, MM.Q.go_ok, MM.Q.go_exc, MM.Q.nox_ok, MM.Q.vr_some, MM.Q.ev_var, MM.Q.ev_c, MM.Q.ev_k, MM.Q.frzO_some, MM.Q.tupO_some, MM.Q.tupO_none, MM.Q.bear_val, MM.Q.bear_frz, MM.Q.bear_ref, MM.Q.bear_own, MM.Q.bear_tup, MM.Q.allD_nil, MM.Q.allD_cons, MM.Q.allD_map, MM.Q.bearO_some, MM.Q.ev_bin, MM.Q.ev_bin1, MM.Q.ev_bin2, MM.Q.add_int, MM.Q.sub_int, MM.Q.mul_int, MM.Q.mod_int, MM.Q.fdiv_int, MM.Q.pow_int, MM.Q.intB_int, MM.Q.datO_f, MM.Q.datO_t, MM.Q.data_d, MM.Q.data_ref, MM.Q.data_own, MM.Q.ev_eq_r, MM.Q.ev_eq_o, MM.Q.ev_eq_l, MM.Q.ev_eq_t, MM.Q.ev_eq_i, MM.Q.ev_eq_b, MM.Q.ev_eq_n, MM.Q.ev_eq_st, MM.Q.ev_eq_sf, MM.Q.eqO_some, MM.Q.eqC_t, MM.Q.eqC_f, MM.Q.eqv_nil, MM.Q.eqv_int, MM.Q.eqv_bool, MM.Q.in_str, MM.Q.notIn_str, MM.Q.is_bool, MM.Q.isnot_bool, MM.Q.tst_bool, MM.Q.ev_tst, MM.Q.ev_truth, MM.Q.ev_tru, MM.Q.truO_some, MM.Q.truth_bool, MM.Q.truth_int, MM.Q.truth_none, MM.Q.truth_list, MM.Q.truth_tup, MM.Q.ev_andB, MM.Q.ev_orB, MM.Q.ev_notB, MM.Q.andB_t, MM.Q.andB_f, MM.Q.orB_t, MM.Q.orB_f, MM.Q.ev_notB1, MM.Q.ev_and, MM.Q.ev_or, MM.Q.and_tB, MM.Q.and_fB, MM.Q.or_tB, MM.Q.or_fB, MM.Q.ev_not, MM.Q.ev_not1, MM.Q.notO_some, MM.Q.ev_ifE, MM.Q.ifE_t, MM.Q.ifE_f, MM.Q.ev_nil, MM.Q.ev_cons, MM.Q.ev_cons1, MM.Q.ev_cons2, MM.Q.ev_disp, MM.Q.disp_lst, MM.Q.disp_tup, MM.Q.frees_nil, MM.Q.frees_cons, MM.Q.free_d, MM.Q.free_ref, MM.Q.free_adr, MM.Q.dI_snoc, MM.Q.dI_len, MM.Q.allD_dI, MM.Q.dI_nil, MM.Q.allD_dIs, MM.Q.frees_map, MM.Q.ev_cb, MM.Q.ev_cb1, MM.Q.ev_call, MM.Q.ev_call1, MM.Q.ev_call0, MM.Q.ev_callK, MM.Q.ev_callK1, MM.Q.ev_callK2, MM.Q.ldd_some, MM.Q.laid_nil, MM.Q.laid_k, MM.Q.laid_p, MM.Q.ixO_some, MM.Q.ev_ix, MM.Q.ev_ix1, MM.Q.ev_ix2, MM.Q.ix_list, MM.Q.ix_tup, MM.Q.refS_lst, MM.Q.refS_tup, MM.Q.seq_ref, MM.Q.seq_own, MM.Q.seq_list, MM.Q.seq_tup, MM.Q.ixK_some, MM.Q.ix_ref, MM.Q.ix_own, MM.Q.listO_f, MM.Q.ev_list, MM.Q.at0, MM.Q.at1, MM.Q.at2, MM.Q.at3, MM.Q.at4, MM.Q.ixN0, MM.Q.ixN1, MM.Q.ixN2, MM.Q.ev_oN, MM.Q.ev_oS, MM.Q.oS_int, MM.Q.ev_sl, MM.Q.ev_sl1, MM.Q.ev_sl2, MM.Q.ev_sl3, MM.Q.ev_rev, MM.Q.rev_list, MM.Q.ev_bm, MM.Q.ev_bm1, MM.Q.cBM_t, MM.Q.ev_bm2, MM.Q.buO_some, MM.Q.ev_bu, MM.Q.ev_bu1, MM.Q.cBU_t, MM.Q.ev_bu2, MM.Q.ty_str, MM.Q.tyO_some, MM.Q.ty_ref, MM.Q.ty_own, MM.Q.ty_list, MM.Q.beq_ll, MM.Q.beq_ss, MM.Q.celO_some, MM.Q.cell_ref, MM.Q.cell_own, MM.Q.ev_append, MM.Q.appO_some, MM.Q.ev_extend, MM.Q.extO_some, MM.Q.ev_pop, MM.Q.popO_snoc, MM.Q.ev_ind, MM.Q.ev_ind1, MM.Q.ev_neg, MM.Q.neg_int, MM.Q.ev_iter, MM.Q.ev_it, MM.Q.itO_some, MM.Q.items_list, MM.Q.items_tup, MM.Q.ev_rg1, MM.Q.rg1_int, MM.Q.ev_lc, MM.Q.ev_lc1, MM.Q.ev_lc2, MM.Q.wipe_nil, MM.Q.wipe_cons, MM.Q.ev_seq, MM.Q.seq_nx, MM.Q.seq_rt, MM.Q.seq_exc, MM.Q.seq_bk, MM.Q.seq_ct, MM.Q.ev_asg, MM.Q.ev_asg1, MM.Q.nxO_some, MM.Q.mg_name, MM.Q.mg_nil, MM.Q.mg_consN, MM.Q.mg_tup, MM.Q.ev_expr, MM.Q.ev_expr1, MM.Q.ev_ret, MM.Q.ev_ret1, MM.Q.ev_retN, MM.Q.ev_skip, MM.Q.ev_brk, MM.Q.ev_cnt, MM.Q.ev_if, MM.Q.if_t, MM.Q.if_f, MM.Q.ev_for, MM.Q.ev_for1, MM.Q.ev_fz, MM.Q.fz_own, MM.Q.fzC_some, MM.Q.fzO_some, MM.Q.fz_d, MM.Q.fz_ref, MM.Q.stO_some, MM.Q.ev_st, MM.Q.ev_st1, MM.Q.ev_st2, MM.Q.ev_st3, MM.Q.ev_setIx, MM.Q.siO_some, MM.Q.ev_par, MM.Q.ev_par1, MM.Q.nones_zero, MM.Q.nones_succ, MM.Q.begin_eq,  MM.Q.ev_fn, MM.Q.fin_rt, MM.Q.fin_ref, MM.Q.fin_nx, MM.Q.trim_same, MM.Q.trim_app, MM.Q.ev_len, MM.Q.ev_lst_l, MM.Q.ev_lst_t, MM.Q.ev_lst_r, MM.Q.ev_lst_o, MM.Q.ev_l1, MM.Q.ev_sum, MM.Q.ev_all, MM.Q.ev_any, MM.Q.ev_isi, MM.Q.kind_str, MM.Q.kind_int, MM.Q.kind_bool, MM.Q.kind_none, MM.Q.kind_dict, MM.Q.kind_list, MM.Q.kind_tup, MM.Q.kit_ss, MM.Q.kit_is, MM.Q.kit_bs, MM.Q.kit_ns, MM.Q.kit_ds, MM.Q.kit_ls, MM.Q.kit_ts, MM.Q.ev_repr, MM.Q.ev_join, MM.Q.lenO_some, MM.Q.len_list, MM.Q.len_tup, MM.Q.lnO_some, MM.Q.len_ref, MM.Q.len_own, MM.Q.lisO_some, MM.Q.l1O_some, MM.Q.ints_map, MM.Q.bools_map, MM.Q.strs_map, MM.Q.isiO_some, MM.Q.jnO_some, MM.Q.len_st, MM.Q.add_st, MM.Q.mul_st, MM.Q.ix_st, MM.Q.sl_st, MM.Q.rev_st, MM.Q.eqv_st, MM.Q.st_dec, MM.Q.divmod_int, MM.Q.items_st, MM.Q.allD_mapf, MM.Q.strs_mapf, MM.Q.ints_mapf, MM.Q.bools_mapf, MM.Q.join_ones_some, MM.Q.sl_own, MM.Q.sl_ref, MM.Q.sl_list, MM.Q.slO_some, MM.Q.add_own, MM.Q.add_ref, MM.Q.add_list, MM.Q.catO_some, MM.Q.cutL_map, MM.Q.mg_tupL, MM.Q.ev_ch, MM.Q.ev_ch1, MM.Q.ev_ch2, MM.Q.ch_t, MM.Q.ch_f, MM.Q.ev_ch3, MM.Q.starts_str, MM.Q.ends_str, MM.Q.upper_str, MM.Q.part_str, MM.Q.ev_fmt, MM.Q.ev_fmtR, MM.Q.fmt_st, MM.Q.fmt_int, MM.Q.ev_js_nil, MM.Q.ev_js_cons, MM.Q.ev_js1, MM.Q.ev_js2, MM.Q.jsF_some, MM.Q.js_st, MM.Q.ev_pr_nil, MM.Q.ev_pr_cons, MM.Q.ev_pr1, MM.Q.ev_pr2, MM.Q.ev_pr3, MM.Q.ev_dct, MM.Q.ev_dct1, MM.Q.keys_one, MM.Q.dctF_one, MM.Q.tup_list, MM.Q.tup_tup, MM.Q.tup_st, MM.Q.lst_st, MM.Q.mul_list, MM.Q.mul_tup, MM.Q.ev_popK, MM.Q.in_own, MM.Q.in_ref, MM.Q.in_list, MM.Q.inO_t, MM.Q.inO_f, 
  List.map_cons, List.map_nil, List.length_cons, List.length_nil, List.append_nil, List.nil_append, List.cons_append, List.getElem?_cons_zero, List.getElem?_cons_succ, List.set_cons_zero, List.set_cons_succ, Bool.and_true, Bool.true_and, Option.bind_some, Option.map_some, Nat.reduceAdd, Nat.reduceSub, Nat.add_sub_cancel, Nat.sub_self])
--- imports sig good
/-! names, by mark and label -/
def nameL (m w : List Nat) : List Nat := 35 :: (m ++ 45 :: (w ++ [59]))
theorem nameL_len {m w : List Nat} : (nameL m w).length = m.length + w.length + 3 := by simp [nameL]; omega
theorem nameL_good {m w : List Nat} (hm : markB m = true) (hw : wordB w = true) : Gd 19 (nameL m w) := by
  have a := mark_good hm
  have b := word_good hw
  exact ((Gd.one (c := 35) (by decide)).app (a.app ((Gd.one (c := 45) (by decide)).app (b.app (Gd.one (c := 59) (by decide)))))).mono (by decide)
theorem nameL_mark {m w : List Nat} (h : m.length = 8) : Q.cutL (nameL m w) (some 1) (some 9) = m := by
  rw [show (some (1 : Int)) = some ((1 : Nat) : Int) from rfl, show (some (9 : Int)) = some ((9 : Nat) : Int) from rfl, Q.cutL_ab (by rw [nameL_len]; omega) (by decide)]
  show List.take 8 (m ++ _) = m
  rw [← h, List.take_left]
theorem nameL_label {m w : List Nat} (h : m.length = 8) : Q.cutL (nameL m w) (some 10) (some (-1)) = w := by
  rw [show (some (10 : Int)) = some ((10 : Nat) : Int) from rfl, Q.cutL_neg1 (by rw [nameL_len]; omega), nameL_len]
  have e : List.drop 10 (nameL m w) = w ++ [59] := by
    show List.drop 9 (m ++ 45 :: (w ++ [59])) = _
    rw [List.drop_append, h, List.drop_of_length_le (by omega)]; rfl
  rw [e, show m.length + w.length + 3 - 1 - 10 = w.length by omega, List.take_left]

end Law
end
section
set_option Elab.async false
set_option linter.all false
set_option maxRecDepth 100000
set_option maxHeartbeats 4000000
set_option autoImplicit false
namespace Law
open PySem PySem.Spec PyProof.Rows L2 MM
local macro_rules | `(tactic| walk_at "mm") => `(tactic| simp (disch := first | assumption | omega | exact MM.Q.shaped_int | exact MM.Q.shaped_nil | exact MM.Q.shaped_ints | exact MM.Q.shaped_bool | (refine of_eq_true (eq_true ?_); first | with_unfolding_all rfl | (simp only [MM.Q.free_d, MM.Q.free_ref, MM.Q.free_adr, MM.Q.frees_nil, MM.Q.frees_cons, MM.Q.frees_map, Bool.and_true, Bool.true_and]; done)) | (simp only [List.length_cons, List.length_nil, List.append_nil, List.map_cons, List.map_nil, List.length_append, List.length_map, List.length_reverse, MM.Q.dI_len, PySem.sizeLine_eq]; omega)) only [MM.Q.bind_ok, MM.Q.bind_exc, MM.Q.go_ok, MM.Q.go_exc, MM.Q.nox_ok, MM.Q.vr_some, MM.Q.ev_var, MM.Q.ev_c, MM.Q.ev_k, MM.Q.frzO_some, MM.Q.tupO_some, MM.Q.tupO_none, MM.Q.bear_val, MM.Q.bear_frz, MM.Q.bear_ref, MM.Q.bear_own, MM.Q.bear_tup, MM.Q.allD_nil, MM.Q.allD_cons, MM.Q.allD_map, MM.Q.bearO_some, MM.Q.ev_bin, MM.Q.ev_bin1, MM.Q.ev_bin2, MM.Q.add_int, MM.Q.sub_int, MM.Q.mul_int, MM.Q.mod_int, MM.Q.fdiv_int, MM.Q.pow_int, MM.Q.intB_int, MM.Q.datO_f, MM.Q.datO_t, MM.Q.data_d, MM.Q.data_ref, MM.Q.data_own, MM.Q.ev_eq_r, MM.Q.ev_eq_o, MM.Q.ev_eq_l, MM.Q.ev_eq_t, MM.Q.ev_eq_i, MM.Q.ev_eq_b, MM.Q.ev_eq_n, MM.Q.ev_eq_st, MM.Q.ev_eq_sf, MM.Q.eqO_some, MM.Q.eqC_t, MM.Q.eqC_f, MM.Q.eqv_nil, MM.Q.eqv_int, MM.Q.eqv_bool, MM.Q.in_str, MM.Q.notIn_str, MM.Q.is_bool, MM.Q.isnot_bool, MM.Q.tst_bool, MM.Q.ev_tst, MM.Q.ev_truth, MM.Q.ev_tru, MM.Q.truO_some, MM.Q.truth_bool, MM.Q.truth_int, MM.Q.truth_none, MM.Q.truth_list, MM.Q.truth_tup, MM.Q.ev_andB, MM.Q.ev_orB, MM.Q.ev_notB, MM.Q.andB_t, MM.Q.andB_f, MM.Q.orB_t, MM.Q.orB_f, MM.Q.ev_notB1, MM.Q.ev_and, MM.Q.ev_or, MM.Q.and_tB, MM.Q.and_fB, MM.Q.or_tB, MM.Q.or_fB, MM.Q.ev_not, MM.Q.ev_not1, MM.Q.notO_some, MM.Q.ev_ifE, MM.Q.ifE_t, MM.Q.ifE_f, MM.Q.ev_nil, MM.Q.ev_cons, MM.Q.ev_cons1, MM.Q.ev_cons2, MM.Q.ev_disp, MM.Q.disp_lst, MM.Q.disp_tup, MM.Q.frees_nil, MM.Q.frees_cons, MM.Q.free_d, MM.Q.free_ref, MM.Q.free_adr, MM.Q.dI_snoc, MM.Q.dI_len, MM.Q.allD_dI, MM.Q.dI_nil, MM.Q.allD_dIs, MM.Q.frees_map, MM.Q.ev_cb, MM.Q.ev_cb1, MM.Q.ev_call, MM.Q.ev_call1, MM.Q.ev_call0, MM.Q.ev_callK, MM.Q.ev_callK1, MM.Q.ev_callK2, MM.Q.ldd_some, MM.Q.laid_nil, MM.Q.laid_k, MM.Q.laid_p, MM.Q.ixO_some, MM.Q.ev_ix, MM.Q.ev_ix1, MM.Q.ev_ix2, MM.Q.ix_list, MM.Q.ix_tup, MM.Q.refS_lst, MM.Q.refS_tup, MM.Q.seq_ref, MM.Q.seq_own, MM.Q.seq_list, MM.Q.seq_tup, MM.Q.ixK_some, MM.Q.ix_ref, MM.Q.ix_own, MM.Q.listO_f, MM.Q.ev_list, MM.Q.at0, MM.Q.at1, MM.Q.at2, MM.Q.at3, MM.Q.at4, MM.Q.ixN0, MM.Q.ixN1, MM.Q.ixN2, MM.Q.ev_oN, MM.Q.ev_oS, MM.Q.oS_int, MM.Q.ev_sl, MM.Q.ev_sl1, MM.Q.ev_sl2, MM.Q.ev_sl3, MM.Q.ev_rev, MM.Q.rev_list, MM.Q.ev_bm, MM.Q.ev_bm1, MM.Q.cBM_t, MM.Q.ev_bm2, MM.Q.buO_some, MM.Q.ev_bu, MM.Q.ev_bu1, MM.Q.cBU_t, MM.Q.ev_bu2, MM.Q.ty_str, MM.Q.tyO_some, MM.Q.ty_ref, MM.Q.ty_own, MM.Q.ty_list, MM.Q.beq_ll, MM.Q.beq_ss, MM.Q.celO_some, MM.Q.cell_ref, MM.Q.cell_own, MM.Q.ev_append, MM.Q.appO_some, MM.Q.ev_extend, MM.Q.extO_some, MM.Q.ev_pop, MM.Q.popO_snoc, MM.Q.ev_ind, MM.Q.ev_ind1, MM.Q.ev_neg, MM.Q.neg_int, MM.Q.ev_iter, MM.Q.ev_it, MM.Q.itO_some, MM.Q.items_list, MM.Q.items_tup, MM.Q.ev_rg1, MM.Q.rg1_int, MM.Q.ev_lc, MM.Q.ev_lc1, MM.Q.ev_lc2, MM.Q.wipe_nil, MM.Q.wipe_cons, MM.Q.ev_seq, MM.Q.seq_nx, MM.Q.seq_rt, MM.Q.seq_exc, MM.Q.seq_bk, MM.Q.seq_ct, MM.Q.ev_asg, MM.Q.ev_asg1, MM.Q.nxO_some, MM.Q.mg_name, MM.Q.mg_nil, MM.Q.mg_consN, MM.Q.mg_tup, MM.Q.ev_expr, MM.Q.ev_expr1, MM.Q.ev_ret, MM.Q.ev_ret1, MM.Q.ev_retN, MM.Q.ev_skip, MM.Q.ev_brk, MM.Q.ev_cnt, MM.Q.ev_if, MM.Q.if_t, MM.Q.if_f, MM.Q.ev_for, MM.Q.ev_for1, MM.Q.ev_fz, MM.Q.fz_own, MM.Q.fzC_some, MM.Q.fzO_some, MM.Q.fz_d, MM.Q.fz_ref, MM.Q.stO_some, MM.Q.ev_st, MM.Q.ev_st1, MM.Q.ev_st2, MM.Q.ev_st3, MM.Q.ev_setIx, MM.Q.siO_some, MM.Q.ev_par, MM.Q.ev_par1, MM.Q.nones_zero, MM.Q.nones_succ, MM.Q.begin_eq,  MM.Q.ev_fn, MM.Q.fin_rt, MM.Q.fin_ref, MM.Q.fin_nx, MM.Q.trim_same, MM.Q.trim_app, MM.Q.ev_len, MM.Q.ev_lst_l, MM.Q.ev_lst_t, MM.Q.ev_lst_r, MM.Q.ev_lst_o, MM.Q.ev_l1, MM.Q.ev_sum, MM.Q.ev_all, MM.Q.ev_any, MM.Q.ev_isi, MM.Q.kind_str, MM.Q.kind_int, MM.Q.kind_bool, MM.Q.kind_none, MM.Q.kind_dict, MM.Q.kind_list, MM.Q.kind_tup, MM.Q.kit_ss, MM.Q.kit_is, MM.Q.kit_bs, MM.Q.kit_ns, MM.Q.kit_ds, MM.Q.kit_ls, MM.Q.kit_ts, MM.Q.ev_repr, MM.Q.ev_join, MM.Q.lenO_some, MM.Q.len_list, MM.Q.len_tup, MM.Q.lnO_some, MM.Q.len_ref, MM.Q.len_own, MM.Q.lisO_some, MM.Q.l1O_some, MM.Q.ints_map, MM.Q.bools_map, MM.Q.strs_map, MM.Q.isiO_some, MM.Q.jnO_some, MM.Q.len_st, MM.Q.add_st, MM.Q.mul_st, MM.Q.ix_st, MM.Q.sl_st, MM.Q.rev_st, MM.Q.eqv_st, MM.Q.st_dec, MM.Q.divmod_int, MM.Q.items_st, MM.Q.allD_mapf, MM.Q.strs_mapf, MM.Q.ints_mapf, MM.Q.bools_mapf, MM.Q.join_ones_some, MM.Q.sl_own, MM.Q.sl_ref, MM.Q.sl_list, MM.Q.slO_some, MM.Q.add_own, MM.Q.add_ref, MM.Q.add_list, MM.Q.catO_some, MM.Q.cutL_map, MM.Q.mg_tupL, MM.Q.ev_ch, MM.Q.ev_ch1, MM.Q.ev_ch2, MM.Q.ch_t, MM.Q.ch_f, MM.Q.ev_ch3, MM.Q.starts_str, MM.Q.ends_str, MM.Q.upper_str, MM.Q.part_str, MM.Q.ev_fmt, MM.Q.ev_fmtR, MM.Q.fmt_st, MM.Q.fmt_int, MM.Q.ev_js_nil, MM.Q.ev_js_cons, MM.Q.ev_js1, MM.Q.ev_js2, MM.Q.jsF_some, MM.Q.js_st, MM.Q.ev_pr_nil, MM.Q.ev_pr_cons, MM.Q.ev_pr1, MM.Q.ev_pr2, MM.Q.ev_pr3, MM.Q.ev_dct, MM.Q.ev_dct1, MM.Q.keys_one, MM.Q.dctF_one, MM.Q.tup_list, MM.Q.tup_tup, MM.Q.tup_st, MM.Q.lst_st, MM.Q.mul_list, MM.Q.mul_tup, MM.Q.ev_popK, MM.Q.in_own, MM.Q.in_ref, MM.Q.in_list, MM.Q.inO_t, MM.Q.inO_f, 
  List.map_cons, List.map_nil, List.length_cons, List.length_nil, List.append_nil, List.nil_append, List.cons_append, List.getElem?_cons_zero, List.getElem?_cons_succ, List.set_cons_zero, List.set_cons_succ, Bool.and_true, Bool.true_and, Option.bind_some, Option.map_some, Nat.reduceAdd, Nat.reduceSub, Nat.add_sub_cancel, Nat.sub_self])
--- imports nm
theorem spec_name_with {S : Sg} {m w : List Nat} (hm : m.length ≤ 100000) (hw : w.length ≤ 100000) : f_name_with [mS m, mS w] S = .ok (mS (nameL m w)) S := by
  have h16 : sizeLine = 16777216 := PySem.sizeLine_eq
  unfold f_name_with m_name_with nameL
  rw [show k_BETWEEN = Q.st [45] from by decide +kernel, show k_BEGIN = Q.st [35] from by decide +kernel, show k_END = Q.st [59] from by decide +kernel, Q.empty_st]
  walk_at "mm"
  simp only [List.append_assoc, List.cons_append, List.nil_append]

end Law
end
section
set_option Elab.async false
set_option linter.all false
set_option maxRecDepth 100000
set_option maxHeartbeats 4000000
set_option autoImplicit false
namespace Law
open PySem PySem.Spec PyProof.Rows L2 MM
local macro_rules | `(tactic| walk_at "mm") => `(tactic| simp (disch := first | assumption | omega | exact MM.Q.shaped_int | exact MM.Q.shaped_nil | exact MM.Q.shaped_ints | exact MM.Q.shaped_bool | (refine of_eq_true (eq_true ?_); first | with_unfolding_all rfl | (simp only [MM.Q.free_d, MM.Q.free_ref, MM.Q.free_adr, MM.Q.frees_nil, MM.Q.frees_cons, MM.Q.frees_map, Bool.and_true, Bool.true_and]; done)) | (simp only [List.length_cons, List.length_nil, List.append_nil, List.map_cons, List.map_nil, List.length_append, List.length_map, List.length_reverse, MM.Q.dI_len, PySem.sizeLine_eq]; omega)) only [MM.Q.bind_ok, MM.Q.bind_exc, MM.Q.go_ok, MM.Q.go_exc, MM.Q.nox_ok, MM.Q.vr_some, MM.Q.ev_var, MM.Q.ev_c, MM.Q.ev_k, MM.Q.frzO_some, MM.Q.tupO_some, MM.Q.tupO_none, MM.Q.bear_val, MM.Q.bear_frz, MM.Q.bear_ref, MM.Q.bear_own, MM.Q.bear_tup, MM.Q.allD_nil, MM.Q.allD_cons, MM.Q.allD_map, MM.Q.bearO_some, MM.Q.ev_bin, MM.Q.ev_bin1, MM.Q.ev_bin2, MM.Q.add_int, MM.Q.sub_int, MM.Q.mul_int, MM.Q.mod_int, MM.Q.fdiv_int, MM.Q.pow_int, MM.Q.intB_int, MM.Q.datO_f, MM.Q.datO_t, MM.Q.data_d, MM.Q.data_ref, MM.Q.data_own, MM.Q.ev_eq_r, MM.Q.ev_eq_o, MM.Q.ev_eq_l, MM.Q.ev_eq_t, MM.Q.ev_eq_i, MM.Q.ev_eq_b, MM.Q.ev_eq_n, MM.Q.ev_eq_st, MM.Q.ev_eq_sf, MM.Q.eqO_some, MM.Q.eqC_t, MM.Q.eqC_f, MM.Q.eqv_nil, MM.Q.eqv_int, MM.Q.eqv_bool, MM.Q.in_str, MM.Q.notIn_str, MM.Q.is_bool, MM.Q.isnot_bool, MM.Q.tst_bool, MM.Q.ev_tst, MM.Q.ev_truth, MM.Q.ev_tru, MM.Q.truO_some, MM.Q.truth_bool, MM.Q.truth_int, MM.Q.truth_none, MM.Q.truth_list, MM.Q.truth_tup, MM.Q.ev_andB, MM.Q.ev_orB, MM.Q.ev_notB, MM.Q.andB_t, MM.Q.andB_f, MM.Q.orB_t, MM.Q.orB_f, MM.Q.ev_notB1, MM.Q.ev_and, MM.Q.ev_or, MM.Q.and_tB, MM.Q.and_fB, MM.Q.or_tB, MM.Q.or_fB, MM.Q.ev_not, MM.Q.ev_not1, MM.Q.notO_some, MM.Q.ev_ifE, MM.Q.ifE_t, MM.Q.ifE_f, MM.Q.ev_nil, MM.Q.ev_cons, MM.Q.ev_cons1, MM.Q.ev_cons2, MM.Q.ev_disp, MM.Q.disp_lst, MM.Q.disp_tup, MM.Q.frees_nil, MM.Q.frees_cons, MM.Q.free_d, MM.Q.free_ref, MM.Q.free_adr, MM.Q.dI_snoc, MM.Q.dI_len, MM.Q.allD_dI, MM.Q.dI_nil, MM.Q.allD_dIs, MM.Q.frees_map, MM.Q.ev_cb, MM.Q.ev_cb1, MM.Q.ev_call, MM.Q.ev_call1, MM.Q.ev_call0, MM.Q.ev_callK, MM.Q.ev_callK1, MM.Q.ev_callK2, MM.Q.ldd_some, MM.Q.laid_nil, MM.Q.laid_k, MM.Q.laid_p, MM.Q.ixO_some, MM.Q.ev_ix, MM.Q.ev_ix1, MM.Q.ev_ix2, MM.Q.ix_list, MM.Q.ix_tup, MM.Q.refS_lst, MM.Q.refS_tup, MM.Q.seq_ref, MM.Q.seq_own, MM.Q.seq_list, MM.Q.seq_tup, MM.Q.ixK_some, MM.Q.ix_ref, MM.Q.ix_own, MM.Q.listO_f, MM.Q.ev_list, MM.Q.at0, MM.Q.at1, MM.Q.at2, MM.Q.at3, MM.Q.at4, MM.Q.ixN0, MM.Q.ixN1, MM.Q.ixN2, MM.Q.ev_oN, MM.Q.ev_oS, MM.Q.oS_int, MM.Q.ev_sl, MM.Q.ev_sl1, MM.Q.ev_sl2, MM.Q.ev_sl3, MM.Q.ev_rev, MM.Q.rev_list, MM.Q.ev_bm, MM.Q.ev_bm1, MM.Q.cBM_t, MM.Q.ev_bm2, MM.Q.buO_some, MM.Q.ev_bu, MM.Q.ev_bu1, MM.Q.cBU_t, MM.Q.ev_bu2, MM.Q.ty_str, MM.Q.tyO_some, MM.Q.ty_ref, MM.Q.ty_own, MM.Q.ty_list, MM.Q.beq_ll, MM.Q.beq_ss, MM.Q.celO_some, MM.Q.cell_ref, MM.Q.cell_own, MM.Q.ev_append, MM.Q.appO_some, MM.Q.ev_extend, MM.Q.extO_some, MM.Q.ev_pop, MM.Q.popO_snoc, MM.Q.ev_ind, MM.Q.ev_ind1, MM.Q.ev_neg, MM.Q.neg_int, MM.Q.ev_iter, MM.Q.ev_it, MM.Q.itO_some, MM.Q.items_list, MM.Q.items_tup, MM.Q.ev_rg1, MM.Q.rg1_int, MM.Q.ev_lc, MM.Q.ev_lc1, MM.Q.ev_lc2, MM.Q.wipe_nil, MM.Q.wipe_cons, MM.Q.ev_seq, MM.Q.seq_nx, MM.Q.seq_rt, MM.Q.seq_exc, MM.Q.seq_bk, MM.Q.seq_ct, MM.Q.ev_asg, MM.Q.ev_asg1, MM.Q.nxO_some, MM.Q.mg_name, MM.Q.mg_nil, MM.Q.mg_consN, MM.Q.mg_tup, MM.Q.ev_expr, MM.Q.ev_expr1, MM.Q.ev_ret, MM.Q.ev_ret1, MM.Q.ev_retN, MM.Q.ev_skip, MM.Q.ev_brk, MM.Q.ev_cnt, MM.Q.ev_if, MM.Q.if_t, MM.Q.if_f, MM.Q.ev_for, MM.Q.ev_for1, MM.Q.ev_fz, MM.Q.fz_own, MM.Q.fzC_some, MM.Q.fzO_some, MM.Q.fz_d, MM.Q.fz_ref, MM.Q.stO_some, MM.Q.ev_st, MM.Q.ev_st1, MM.Q.ev_st2, MM.Q.ev_st3, MM.Q.ev_setIx, MM.Q.siO_some, MM.Q.ev_par, MM.Q.ev_par1, MM.Q.nones_zero, MM.Q.nones_succ, MM.Q.begin_eq,  MM.Q.ev_fn, MM.Q.fin_rt, MM.Q.fin_ref, MM.Q.fin_nx, MM.Q.trim_same, MM.Q.trim_app, MM.Q.ev_len, MM.Q.ev_lst_l, MM.Q.ev_lst_t, MM.Q.ev_lst_r, MM.Q.ev_lst_o, MM.Q.ev_l1, MM.Q.ev_sum, MM.Q.ev_all, MM.Q.ev_any, MM.Q.ev_isi, MM.Q.kind_str, MM.Q.kind_int, MM.Q.kind_bool, MM.Q.kind_none, MM.Q.kind_dict, MM.Q.kind_list, MM.Q.kind_tup, MM.Q.kit_ss, MM.Q.kit_is, MM.Q.kit_bs, MM.Q.kit_ns, MM.Q.kit_ds, MM.Q.kit_ls, MM.Q.kit_ts, MM.Q.ev_repr, MM.Q.ev_join, MM.Q.lenO_some, MM.Q.len_list, MM.Q.len_tup, MM.Q.lnO_some, MM.Q.len_ref, MM.Q.len_own, MM.Q.lisO_some, MM.Q.l1O_some, MM.Q.ints_map, MM.Q.bools_map, MM.Q.strs_map, MM.Q.isiO_some, MM.Q.jnO_some, MM.Q.len_st, MM.Q.add_st, MM.Q.mul_st, MM.Q.ix_st, MM.Q.sl_st, MM.Q.rev_st, MM.Q.eqv_st, MM.Q.st_dec, MM.Q.divmod_int, MM.Q.items_st, MM.Q.allD_mapf, MM.Q.strs_mapf, MM.Q.ints_mapf, MM.Q.bools_mapf, MM.Q.join_ones_some, MM.Q.sl_own, MM.Q.sl_ref, MM.Q.sl_list, MM.Q.slO_some, MM.Q.add_own, MM.Q.add_ref, MM.Q.add_list, MM.Q.catO_some, MM.Q.cutL_map, MM.Q.mg_tupL, MM.Q.ev_ch, MM.Q.ev_ch1, MM.Q.ev_ch2, MM.Q.ch_t, MM.Q.ch_f, MM.Q.ev_ch3, MM.Q.starts_str, MM.Q.ends_str, MM.Q.upper_str, MM.Q.part_str, MM.Q.ev_fmt, MM.Q.ev_fmtR, MM.Q.fmt_st, MM.Q.fmt_int, MM.Q.ev_js_nil, MM.Q.ev_js_cons, MM.Q.ev_js1, MM.Q.ev_js2, MM.Q.jsF_some, MM.Q.js_st, MM.Q.ev_pr_nil, MM.Q.ev_pr_cons, MM.Q.ev_pr1, MM.Q.ev_pr2, MM.Q.ev_pr3, MM.Q.ev_dct, MM.Q.ev_dct1, MM.Q.keys_one, MM.Q.dctF_one, MM.Q.tup_list, MM.Q.tup_tup, MM.Q.tup_st, MM.Q.lst_st, MM.Q.mul_list, MM.Q.mul_tup, MM.Q.ev_popK, MM.Q.in_own, MM.Q.in_ref, MM.Q.in_list, MM.Q.inO_t, MM.Q.inO_f, 
  List.map_cons, List.map_nil, List.length_cons, List.length_nil, List.append_nil, List.nil_append, List.cons_append, List.getElem?_cons_zero, List.getElem?_cons_succ, List.set_cons_zero, List.set_cons_succ, Bool.and_true, Bool.true_and, Option.bind_some, Option.map_some, Nat.reduceAdd, Nat.reduceSub, Nat.add_sub_cancel, Nat.sub_self])
--- imports nm
theorem spec_mark_in {S : Sg} {l : List Nat} (h : l.length ≤ 100000) : f_mark_in [mS l] S = .ok (mS (Q.cutL l (some 1) (some 9))) S := by
  have h16 : sizeLine = 16777216 := PySem.sizeLine_eq
  unfold f_mark_in m_mark_in
  walk_at "mm"

end Law
end
section
set_option Elab.async false
set_option linter.all false
set_option maxRecDepth 100000
set_option maxHeartbeats 4000000
set_option autoImplicit false
namespace Law
open PySem PySem.Spec PyProof.Rows L2 MM
local macro_rules | `(tactic| walk_at "mm") => `(tactic| simp (disch := first | assumption | omega | exact MM.Q.shaped_int | exact MM.Q.shaped_nil | exact MM.Q.shaped_ints | exact MM.Q.shaped_bool | (refine of_eq_true (eq_true ?_); first | with_unfolding_all rfl | (simp only [MM.Q.free_d, MM.Q.free_ref, MM.Q.free_adr, MM.Q.frees_nil, MM.Q.frees_cons, MM.Q.frees_map, Bool.and_true, Bool.true_and]; done)) | (simp only [List.length_cons, List.length_nil, List.append_nil, List.map_cons, List.map_nil, List.length_append, List.length_map, List.length_reverse, MM.Q.dI_len, PySem.sizeLine_eq]; omega)) only [MM.Q.bind_ok, MM.Q.bind_exc, MM.Q.go_ok, MM.Q.go_exc, MM.Q.nox_ok, MM.Q.vr_some, MM.Q.ev_var, MM.Q.ev_c, MM.Q.ev_k, MM.Q.frzO_some, MM.Q.tupO_some, MM.Q.tupO_none, MM.Q.bear_val, MM.Q.bear_frz, MM.Q.bear_ref, MM.Q.bear_own, MM.Q.bear_tup, MM.Q.allD_nil, MM.Q.allD_cons, MM.Q.allD_map, MM.Q.bearO_some, MM.Q.ev_bin, MM.Q.ev_bin1, MM.Q.ev_bin2, MM.Q.add_int, MM.Q.sub_int, MM.Q.mul_int, MM.Q.mod_int, MM.Q.fdiv_int, MM.Q.pow_int, MM.Q.intB_int, MM.Q.datO_f, MM.Q.datO_t, MM.Q.data_d, MM.Q.data_ref, MM.Q.data_own, MM.Q.ev_eq_r, MM.Q.ev_eq_o, MM.Q.ev_eq_l, MM.Q.ev_eq_t, MM.Q.ev_eq_i, MM.Q.ev_eq_b, MM.Q.ev_eq_n, MM.Q.ev_eq_st, MM.Q.ev_eq_sf, MM.Q.eqO_some, MM.Q.eqC_t, MM.Q.eqC_f, MM.Q.eqv_nil, MM.Q.eqv_int, MM.Q.eqv_bool, MM.Q.in_str, MM.Q.notIn_str, MM.Q.is_bool, MM.Q.isnot_bool, MM.Q.tst_bool, MM.Q.ev_tst, MM.Q.ev_truth, MM.Q.ev_tru, MM.Q.truO_some, MM.Q.truth_bool, MM.Q.truth_int, MM.Q.truth_none, MM.Q.truth_list, MM.Q.truth_tup, MM.Q.ev_andB, MM.Q.ev_orB, MM.Q.ev_notB, MM.Q.andB_t, MM.Q.andB_f, MM.Q.orB_t, MM.Q.orB_f, MM.Q.ev_notB1, MM.Q.ev_and, MM.Q.ev_or, MM.Q.and_tB, MM.Q.and_fB, MM.Q.or_tB, MM.Q.or_fB, MM.Q.ev_not, MM.Q.ev_not1, MM.Q.notO_some, MM.Q.ev_ifE, MM.Q.ifE_t, MM.Q.ifE_f, MM.Q.ev_nil, MM.Q.ev_cons, MM.Q.ev_cons1, MM.Q.ev_cons2, MM.Q.ev_disp, MM.Q.disp_lst, MM.Q.disp_tup, MM.Q.frees_nil, MM.Q.frees_cons, MM.Q.free_d, MM.Q.free_ref, MM.Q.free_adr, MM.Q.dI_snoc, MM.Q.dI_len, MM.Q.allD_dI, MM.Q.dI_nil, MM.Q.allD_dIs, MM.Q.frees_map, MM.Q.ev_cb, MM.Q.ev_cb1, MM.Q.ev_call, MM.Q.ev_call1, MM.Q.ev_call0, MM.Q.ev_callK, MM.Q.ev_callK1, MM.Q.ev_callK2, MM.Q.ldd_some, MM.Q.laid_nil, MM.Q.laid_k, MM.Q.laid_p, MM.Q.ixO_some, MM.Q.ev_ix, MM.Q.ev_ix1, MM.Q.ev_ix2, MM.Q.ix_list, MM.Q.ix_tup, MM.Q.refS_lst, MM.Q.refS_tup, MM.Q.seq_ref, MM.Q.seq_own, MM.Q.seq_list, MM.Q.seq_tup, MM.Q.ixK_some, MM.Q.ix_ref, MM.Q.ix_own, MM.Q.listO_f, MM.Q.ev_list, MM.Q.at0, MM.Q.at1, MM.Q.at2, MM.Q.at3, MM.Q.at4, MM.Q.ixN0, MM.Q.ixN1, MM.Q.ixN2, MM.Q.ev_oN, MM.Q.ev_oS, MM.Q.oS_int, MM.Q.ev_sl, MM.Q.ev_sl1, MM.Q.ev_sl2, MM.Q.ev_sl3, MM.Q.ev_rev, MM.Q.rev_list, MM.Q.ev_bm, MM.Q.ev_bm1, MM.Q.cBM_t, MM.Q.ev_bm2, MM.Q.buO_some, MM.Q.ev_bu, MM.Q.ev_bu1, MM.Q.cBU_t, MM.Q.ev_bu2, MM.Q.ty_str, MM.Q.tyO_some, MM.Q.ty_ref, MM.Q.ty_own, MM.Q.ty_list, MM.Q.beq_ll, MM.Q.beq_ss, MM.Q.celO_some, MM.Q.cell_ref, MM.Q.cell_own, MM.Q.ev_append, MM.Q.appO_some, MM.Q.ev_extend, MM.Q.extO_some, MM.Q.ev_pop, MM.Q.popO_snoc, MM.Q.ev_ind, MM.Q.ev_ind1, MM.Q.ev_neg, MM.Q.neg_int, MM.Q.ev_iter, MM.Q.ev_it, MM.Q.itO_some, MM.Q.items_list, MM.Q.items_tup, MM.Q.ev_rg1, MM.Q.rg1_int, MM.Q.ev_lc, MM.Q.ev_lc1, MM.Q.ev_lc2, MM.Q.wipe_nil, MM.Q.wipe_cons, MM.Q.ev_seq, MM.Q.seq_nx, MM.Q.seq_rt, MM.Q.seq_exc, MM.Q.seq_bk, MM.Q.seq_ct, MM.Q.ev_asg, MM.Q.ev_asg1, MM.Q.nxO_some, MM.Q.mg_name, MM.Q.mg_nil, MM.Q.mg_consN, MM.Q.mg_tup, MM.Q.ev_expr, MM.Q.ev_expr1, MM.Q.ev_ret, MM.Q.ev_ret1, MM.Q.ev_retN, MM.Q.ev_skip, MM.Q.ev_brk, MM.Q.ev_cnt, MM.Q.ev_if, MM.Q.if_t, MM.Q.if_f, MM.Q.ev_for, MM.Q.ev_for1, MM.Q.ev_fz, MM.Q.fz_own, MM.Q.fzC_some, MM.Q.fzO_some, MM.Q.fz_d, MM.Q.fz_ref, MM.Q.stO_some, MM.Q.ev_st, MM.Q.ev_st1, MM.Q.ev_st2, MM.Q.ev_st3, MM.Q.ev_setIx, MM.Q.siO_some, MM.Q.ev_par, MM.Q.ev_par1, MM.Q.nones_zero, MM.Q.nones_succ, MM.Q.begin_eq,  MM.Q.ev_fn, MM.Q.fin_rt, MM.Q.fin_ref, MM.Q.fin_nx, MM.Q.trim_same, MM.Q.trim_app, MM.Q.ev_len, MM.Q.ev_lst_l, MM.Q.ev_lst_t, MM.Q.ev_lst_r, MM.Q.ev_lst_o, MM.Q.ev_l1, MM.Q.ev_sum, MM.Q.ev_all, MM.Q.ev_any, MM.Q.ev_isi, MM.Q.kind_str, MM.Q.kind_int, MM.Q.kind_bool, MM.Q.kind_none, MM.Q.kind_dict, MM.Q.kind_list, MM.Q.kind_tup, MM.Q.kit_ss, MM.Q.kit_is, MM.Q.kit_bs, MM.Q.kit_ns, MM.Q.kit_ds, MM.Q.kit_ls, MM.Q.kit_ts, MM.Q.ev_repr, MM.Q.ev_join, MM.Q.lenO_some, MM.Q.len_list, MM.Q.len_tup, MM.Q.lnO_some, MM.Q.len_ref, MM.Q.len_own, MM.Q.lisO_some, MM.Q.l1O_some, MM.Q.ints_map, MM.Q.bools_map, MM.Q.strs_map, MM.Q.isiO_some, MM.Q.jnO_some, MM.Q.len_st, MM.Q.add_st, MM.Q.mul_st, MM.Q.ix_st, MM.Q.sl_st, MM.Q.rev_st, MM.Q.eqv_st, MM.Q.st_dec, MM.Q.divmod_int, MM.Q.items_st, MM.Q.allD_mapf, MM.Q.strs_mapf, MM.Q.ints_mapf, MM.Q.bools_mapf, MM.Q.join_ones_some, MM.Q.sl_own, MM.Q.sl_ref, MM.Q.sl_list, MM.Q.slO_some, MM.Q.add_own, MM.Q.add_ref, MM.Q.add_list, MM.Q.catO_some, MM.Q.cutL_map, MM.Q.mg_tupL, MM.Q.ev_ch, MM.Q.ev_ch1, MM.Q.ev_ch2, MM.Q.ch_t, MM.Q.ch_f, MM.Q.ev_ch3, MM.Q.starts_str, MM.Q.ends_str, MM.Q.upper_str, MM.Q.part_str, MM.Q.ev_fmt, MM.Q.ev_fmtR, MM.Q.fmt_st, MM.Q.fmt_int, MM.Q.ev_js_nil, MM.Q.ev_js_cons, MM.Q.ev_js1, MM.Q.ev_js2, MM.Q.jsF_some, MM.Q.js_st, MM.Q.ev_pr_nil, MM.Q.ev_pr_cons, MM.Q.ev_pr1, MM.Q.ev_pr2, MM.Q.ev_pr3, MM.Q.ev_dct, MM.Q.ev_dct1, MM.Q.keys_one, MM.Q.dctF_one, MM.Q.tup_list, MM.Q.tup_tup, MM.Q.tup_st, MM.Q.lst_st, MM.Q.mul_list, MM.Q.mul_tup, MM.Q.ev_popK, MM.Q.in_own, MM.Q.in_ref, MM.Q.in_list, MM.Q.inO_t, MM.Q.inO_f, 
  List.map_cons, List.map_nil, List.length_cons, List.length_nil, List.append_nil, List.nil_append, List.cons_append, List.getElem?_cons_zero, List.getElem?_cons_succ, List.set_cons_zero, List.set_cons_succ, Bool.and_true, Bool.true_and, Option.bind_some, Option.map_some, Nat.reduceAdd, Nat.reduceSub, Nat.add_sub_cancel, Nat.sub_self])
--- imports nm
theorem spec_label_in {S : Sg} {l : List Nat} (h : l.length ≤ 100000) : f_label_in [mS l] S = .ok (mS (Q.cutL l (some 10) (some (-1)))) S := by
  have h16 : sizeLine = 16777216 := PySem.sizeLine_eq
  unfold f_label_in m_label_in
  walk_at "mm"
  rfl

end Law
end
section
set_option Elab.async false
set_option linter.all false
set_option maxRecDepth 100000
set_option maxHeartbeats 4000000
set_option autoImplicit false
namespace Law
open PySem PySem.Spec PyProof.Rows L2 MM
local macro_rules | `(tactic| walk_at "mm") => `(tactic| simp (disch := first | assumption | omega | exact MM.Q.shaped_int | exact MM.Q.shaped_nil | exact MM.Q.shaped_ints | exact MM.Q.shaped_bool | (refine of_eq_true (eq_true ?_); first | with_unfolding_all rfl | (simp only [MM.Q.free_d, MM.Q.free_ref, MM.Q.free_adr, MM.Q.frees_nil, MM.Q.frees_cons, MM.Q.frees_map, Bool.and_true, Bool.true_and]; done)) | (simp only [List.length_cons, List.length_nil, List.append_nil, List.map_cons, List.map_nil, List.length_append, List.length_map, List.length_reverse, MM.Q.dI_len, PySem.sizeLine_eq]; omega)) only [MM.Q.bind_ok, MM.Q.bind_exc, MM.Q.go_ok, MM.Q.go_exc, MM.Q.nox_ok, MM.Q.vr_some, MM.Q.ev_var, MM.Q.ev_c, MM.Q.ev_k, MM.Q.frzO_some, MM.Q.tupO_some, MM.Q.tupO_none, MM.Q.bear_val, MM.Q.bear_frz, MM.Q.bear_ref, MM.Q.bear_own, MM.Q.bear_tup, MM.Q.allD_nil, MM.Q.allD_cons, MM.Q.allD_map, MM.Q.bearO_some, MM.Q.ev_bin, MM.Q.ev_bin1, MM.Q.ev_bin2, MM.Q.add_int, MM.Q.sub_int, MM.Q.mul_int, MM.Q.mod_int, MM.Q.fdiv_int, MM.Q.pow_int, MM.Q.intB_int, MM.Q.datO_f, MM.Q.datO_t, MM.Q.data_d, MM.Q.data_ref, MM.Q.data_own, MM.Q.ev_eq_r, MM.Q.ev_eq_o, MM.Q.ev_eq_l, MM.Q.ev_eq_t, MM.Q.ev_eq_i, MM.Q.ev_eq_b, MM.Q.ev_eq_n, MM.Q.ev_eq_st, MM.Q.ev_eq_sf, MM.Q.eqO_some, MM.Q.eqC_t, MM.Q.eqC_f, MM.Q.eqv_nil, MM.Q.eqv_int, MM.Q.eqv_bool, MM.Q.in_str, MM.Q.notIn_str, MM.Q.is_bool, MM.Q.isnot_bool, MM.Q.tst_bool, MM.Q.ev_tst, MM.Q.ev_truth, MM.Q.ev_tru, MM.Q.truO_some, MM.Q.truth_bool, MM.Q.truth_int, MM.Q.truth_none, MM.Q.truth_list, MM.Q.truth_tup, MM.Q.ev_andB, MM.Q.ev_orB, MM.Q.ev_notB, MM.Q.andB_t, MM.Q.andB_f, MM.Q.orB_t, MM.Q.orB_f, MM.Q.ev_notB1, MM.Q.ev_and, MM.Q.ev_or, MM.Q.and_tB, MM.Q.and_fB, MM.Q.or_tB, MM.Q.or_fB, MM.Q.ev_not, MM.Q.ev_not1, MM.Q.notO_some, MM.Q.ev_ifE, MM.Q.ifE_t, MM.Q.ifE_f, MM.Q.ev_nil, MM.Q.ev_cons, MM.Q.ev_cons1, MM.Q.ev_cons2, MM.Q.ev_disp, MM.Q.disp_lst, MM.Q.disp_tup, MM.Q.frees_nil, MM.Q.frees_cons, MM.Q.free_d, MM.Q.free_ref, MM.Q.free_adr, MM.Q.dI_snoc, MM.Q.dI_len, MM.Q.allD_dI, MM.Q.dI_nil, MM.Q.allD_dIs, MM.Q.frees_map, MM.Q.ev_cb, MM.Q.ev_cb1, MM.Q.ev_call, MM.Q.ev_call1, MM.Q.ev_call0, MM.Q.ev_callK, MM.Q.ev_callK1, MM.Q.ev_callK2, MM.Q.ldd_some, MM.Q.laid_nil, MM.Q.laid_k, MM.Q.laid_p, MM.Q.ixO_some, MM.Q.ev_ix, MM.Q.ev_ix1, MM.Q.ev_ix2, MM.Q.ix_list, MM.Q.ix_tup, MM.Q.refS_lst, MM.Q.refS_tup, MM.Q.seq_ref, MM.Q.seq_own, MM.Q.seq_list, MM.Q.seq_tup, MM.Q.ixK_some, MM.Q.ix_ref, MM.Q.ix_own, MM.Q.listO_f, MM.Q.ev_list, MM.Q.at0, MM.Q.at1, MM.Q.at2, MM.Q.at3, MM.Q.at4, MM.Q.ixN0, MM.Q.ixN1, MM.Q.ixN2, MM.Q.ev_oN, MM.Q.ev_oS, MM.Q.oS_int, MM.Q.ev_sl, MM.Q.ev_sl1, MM.Q.ev_sl2, MM.Q.ev_sl3, MM.Q.ev_rev, MM.Q.rev_list, MM.Q.ev_bm, MM.Q.ev_bm1, MM.Q.cBM_t, MM.Q.ev_bm2, MM.Q.buO_some, MM.Q.ev_bu, MM.Q.ev_bu1, MM.Q.cBU_t, MM.Q.ev_bu2, MM.Q.ty_str, MM.Q.tyO_some, MM.Q.ty_ref, MM.Q.ty_own, MM.Q.ty_list, MM.Q.beq_ll, MM.Q.beq_ss, MM.Q.celO_some, MM.Q.cell_ref, MM.Q.cell_own, MM.Q.ev_append, MM.Q.appO_some, MM.Q.ev_extend, MM.Q.extO_some, MM.Q.ev_pop, MM.Q.popO_snoc, MM.Q.ev_ind, MM.Q.ev_ind1, MM.Q.ev_neg, MM.Q.neg_int, MM.Q.ev_iter, MM.Q.ev_it, MM.Q.itO_some, MM.Q.items_list, MM.Q.items_tup, MM.Q.ev_rg1, MM.Q.rg1_int, MM.Q.ev_lc, MM.Q.ev_lc1, MM.Q.ev_lc2, MM.Q.wipe_nil, MM.Q.wipe_cons, MM.Q.ev_seq, MM.Q.seq_nx, MM.Q.seq_rt, MM.Q.seq_exc, MM.Q.seq_bk, MM.Q.seq_ct, MM.Q.ev_asg, MM.Q.ev_asg1, MM.Q.nxO_some, MM.Q.mg_name, MM.Q.mg_nil, MM.Q.mg_consN, MM.Q.mg_tup, MM.Q.ev_expr, MM.Q.ev_expr1, MM.Q.ev_ret, MM.Q.ev_ret1, MM.Q.ev_retN, MM.Q.ev_skip, MM.Q.ev_brk, MM.Q.ev_cnt, MM.Q.ev_if, MM.Q.if_t, MM.Q.if_f, MM.Q.ev_for, MM.Q.ev_for1, MM.Q.ev_fz, MM.Q.fz_own, MM.Q.fzC_some, MM.Q.fzO_some, MM.Q.fz_d, MM.Q.fz_ref, MM.Q.stO_some, MM.Q.ev_st, MM.Q.ev_st1, MM.Q.ev_st2, MM.Q.ev_st3, MM.Q.ev_setIx, MM.Q.siO_some, MM.Q.ev_par, MM.Q.ev_par1, MM.Q.nones_zero, MM.Q.nones_succ, MM.Q.begin_eq,  MM.Q.ev_fn, MM.Q.fin_rt, MM.Q.fin_ref, MM.Q.fin_nx, MM.Q.trim_same, MM.Q.trim_app, MM.Q.ev_len, MM.Q.ev_lst_l, MM.Q.ev_lst_t, MM.Q.ev_lst_r, MM.Q.ev_lst_o, MM.Q.ev_l1, MM.Q.ev_sum, MM.Q.ev_all, MM.Q.ev_any, MM.Q.ev_isi, MM.Q.kind_str, MM.Q.kind_int, MM.Q.kind_bool, MM.Q.kind_none, MM.Q.kind_dict, MM.Q.kind_list, MM.Q.kind_tup, MM.Q.kit_ss, MM.Q.kit_is, MM.Q.kit_bs, MM.Q.kit_ns, MM.Q.kit_ds, MM.Q.kit_ls, MM.Q.kit_ts, MM.Q.ev_repr, MM.Q.ev_join, MM.Q.lenO_some, MM.Q.len_list, MM.Q.len_tup, MM.Q.lnO_some, MM.Q.len_ref, MM.Q.len_own, MM.Q.lisO_some, MM.Q.l1O_some, MM.Q.ints_map, MM.Q.bools_map, MM.Q.strs_map, MM.Q.isiO_some, MM.Q.jnO_some, MM.Q.len_st, MM.Q.add_st, MM.Q.mul_st, MM.Q.ix_st, MM.Q.sl_st, MM.Q.rev_st, MM.Q.eqv_st, MM.Q.st_dec, MM.Q.divmod_int, MM.Q.items_st, MM.Q.allD_mapf, MM.Q.strs_mapf, MM.Q.ints_mapf, MM.Q.bools_mapf, MM.Q.join_ones_some, MM.Q.sl_own, MM.Q.sl_ref, MM.Q.sl_list, MM.Q.slO_some, MM.Q.add_own, MM.Q.add_ref, MM.Q.add_list, MM.Q.catO_some, MM.Q.cutL_map, MM.Q.mg_tupL, MM.Q.ev_ch, MM.Q.ev_ch1, MM.Q.ev_ch2, MM.Q.ch_t, MM.Q.ch_f, MM.Q.ev_ch3, MM.Q.starts_str, MM.Q.ends_str, MM.Q.upper_str, MM.Q.part_str, MM.Q.ev_fmt, MM.Q.ev_fmtR, MM.Q.fmt_st, MM.Q.fmt_int, MM.Q.ev_js_nil, MM.Q.ev_js_cons, MM.Q.ev_js1, MM.Q.ev_js2, MM.Q.jsF_some, MM.Q.js_st, MM.Q.ev_pr_nil, MM.Q.ev_pr_cons, MM.Q.ev_pr1, MM.Q.ev_pr2, MM.Q.ev_pr3, MM.Q.ev_dct, MM.Q.ev_dct1, MM.Q.keys_one, MM.Q.dctF_one, MM.Q.tup_list, MM.Q.tup_tup, MM.Q.tup_st, MM.Q.lst_st, MM.Q.mul_list, MM.Q.mul_tup, MM.Q.ev_popK, MM.Q.in_own, MM.Q.in_ref, MM.Q.in_list, MM.Q.inO_t, MM.Q.inO_f, 
  List.map_cons, List.map_nil, List.length_cons, List.length_nil, List.append_nil, List.nil_append, List.cons_append, List.getElem?_cons_zero, List.getElem?_cons_succ, List.set_cons_zero, List.set_cons_succ, Bool.and_true, Bool.true_and, Option.bind_some, Option.map_some, Nat.reduceAdd, Nat.reduceSub, Nat.add_sub_cancel, Nat.sub_self])
--- imports nm
theorem spec_L_called {S : Sg} {m w : List Nat} (hm : m.length ≤ 100000) (hw : w.length ≤ 100000) : f_L_called [mS m, mS w] S = .ok (mS (nameL m w)) S := by
  have h16 : sizeLine = 16777216 := PySem.sizeLine_eq
  unfold f_L_called m_L_called nameL
  rw [show Str.ofString "#" = Q.st [35] by decide +kernel, show Str.ofString "-" = Q.st [45] by decide +kernel, show Str.ofString ";" = Q.st [59] by decide +kernel]
  walk_at "mm"
  simp only [List.append_assoc, List.cons_append, List.nil_append]

end Law
end
section
set_option Elab.async false
set_option linter.all false
set_option maxRecDepth 100000
set_option maxHeartbeats 4000000
set_option autoImplicit false
namespace Law
open PySem PySem.Spec PyProof.Rows L2 MM
local macro_rules | `(tactic| walk_at "mm") => `(tactic| simp (disch := first | assumption | omega | exact MM.Q.shaped_int | exact MM.Q.shaped_nil | exact MM.Q.shaped_ints | exact MM.Q.shaped_bool | (refine of_eq_true (eq_true ?_); first | with_unfolding_all rfl | (simp only [MM.Q.free_d, MM.Q.free_ref, MM.Q.free_adr, MM.Q.frees_nil, MM.Q.frees_cons, MM.Q.frees_map, Bool.and_true, Bool.true_and]; done)) | (simp only [List.length_cons, List.length_nil, List.append_nil, List.map_cons, List.map_nil, List.length_append, List.length_map, List.length_reverse, MM.Q.dI_len, PySem.sizeLine_eq]; omega)) only [MM.Q.bind_ok, MM.Q.bind_exc, MM.Q.go_ok, MM.Q.go_exc, MM.Q.nox_ok, MM.Q.vr_some, MM.Q.ev_var, MM.Q.ev_c, MM.Q.ev_k, MM.Q.frzO_some, MM.Q.tupO_some, MM.Q.tupO_none, MM.Q.bear_val, MM.Q.bear_frz, MM.Q.bear_ref, MM.Q.bear_own, MM.Q.bear_tup, MM.Q.allD_nil, MM.Q.allD_cons, MM.Q.allD_map, MM.Q.bearO_some, MM.Q.ev_bin, MM.Q.ev_bin1, MM.Q.ev_bin2, MM.Q.add_int, MM.Q.sub_int, MM.Q.mul_int, MM.Q.mod_int, MM.Q.fdiv_int, MM.Q.pow_int, MM.Q.intB_int, MM.Q.datO_f, MM.Q.datO_t, MM.Q.data_d, MM.Q.data_ref, MM.Q.data_own, MM.Q.ev_eq_r, MM.Q.ev_eq_o, MM.Q.ev_eq_l, MM.Q.ev_eq_t, MM.Q.ev_eq_i, MM.Q.ev_eq_b, MM.Q.ev_eq_n, MM.Q.ev_eq_st, MM.Q.ev_eq_sf, MM.Q.eqO_some, MM.Q.eqC_t, MM.Q.eqC_f, MM.Q.eqv_nil, MM.Q.eqv_int, MM.Q.eqv_bool, MM.Q.in_str, MM.Q.notIn_str, MM.Q.is_bool, MM.Q.isnot_bool, MM.Q.tst_bool, MM.Q.ev_tst, MM.Q.ev_truth, MM.Q.ev_tru, MM.Q.truO_some, MM.Q.truth_bool, MM.Q.truth_int, MM.Q.truth_none, MM.Q.truth_list, MM.Q.truth_tup, MM.Q.ev_andB, MM.Q.ev_orB, MM.Q.ev_notB, MM.Q.andB_t, MM.Q.andB_f, MM.Q.orB_t, MM.Q.orB_f, MM.Q.ev_notB1, MM.Q.ev_and, MM.Q.ev_or, MM.Q.and_tB, MM.Q.and_fB, MM.Q.or_tB, MM.Q.or_fB, MM.Q.ev_not, MM.Q.ev_not1, MM.Q.notO_some, MM.Q.ev_ifE, MM.Q.ifE_t, MM.Q.ifE_f, MM.Q.ev_nil, MM.Q.ev_cons, MM.Q.ev_cons1, MM.Q.ev_cons2, MM.Q.ev_disp, MM.Q.disp_lst, MM.Q.disp_tup, MM.Q.frees_nil, MM.Q.frees_cons, MM.Q.free_d, MM.Q.free_ref, MM.Q.free_adr, MM.Q.dI_snoc, MM.Q.dI_len, MM.Q.allD_dI, MM.Q.dI_nil, MM.Q.allD_dIs, MM.Q.frees_map, MM.Q.ev_cb, MM.Q.ev_cb1, MM.Q.ev_call, MM.Q.ev_call1, MM.Q.ev_call0, MM.Q.ev_callK, MM.Q.ev_callK1, MM.Q.ev_callK2, MM.Q.ldd_some, MM.Q.laid_nil, MM.Q.laid_k, MM.Q.laid_p, MM.Q.ixO_some, MM.Q.ev_ix, MM.Q.ev_ix1, MM.Q.ev_ix2, MM.Q.ix_list, MM.Q.ix_tup, MM.Q.refS_lst, MM.Q.refS_tup, MM.Q.seq_ref, MM.Q.seq_own, MM.Q.seq_list, MM.Q.seq_tup, MM.Q.ixK_some, MM.Q.ix_ref, MM.Q.ix_own, MM.Q.listO_f, MM.Q.ev_list, MM.Q.at0, MM.Q.at1, MM.Q.at2, MM.Q.at3, MM.Q.at4, MM.Q.ixN0, MM.Q.ixN1, MM.Q.ixN2, MM.Q.ev_oN, MM.Q.ev_oS, MM.Q.oS_int, MM.Q.ev_sl, MM.Q.ev_sl1, MM.Q.ev_sl2, MM.Q.ev_sl3, MM.Q.ev_rev, MM.Q.rev_list, MM.Q.ev_bm, MM.Q.ev_bm1, MM.Q.cBM_t, MM.Q.ev_bm2, MM.Q.buO_some, MM.Q.ev_bu, MM.Q.ev_bu1, MM.Q.cBU_t, MM.Q.ev_bu2, MM.Q.ty_str, MM.Q.tyO_some, MM.Q.ty_ref, MM.Q.ty_own, MM.Q.ty_list, MM.Q.beq_ll, MM.Q.beq_ss, MM.Q.celO_some, MM.Q.cell_ref, MM.Q.cell_own, MM.Q.ev_append, MM.Q.appO_some, MM.Q.ev_extend, MM.Q.extO_some, MM.Q.ev_pop, MM.Q.popO_snoc, MM.Q.ev_ind, MM.Q.ev_ind1, MM.Q.ev_neg, MM.Q.neg_int, MM.Q.ev_iter, MM.Q.ev_it, MM.Q.itO_some, MM.Q.items_list, MM.Q.items_tup, MM.Q.ev_rg1, MM.Q.rg1_int, MM.Q.ev_lc, MM.Q.ev_lc1, MM.Q.ev_lc2, MM.Q.wipe_nil, MM.Q.wipe_cons, MM.Q.ev_seq, MM.Q.seq_nx, MM.Q.seq_rt, MM.Q.seq_exc, MM.Q.seq_bk, MM.Q.seq_ct, MM.Q.ev_asg, MM.Q.ev_asg1, MM.Q.nxO_some, MM.Q.mg_name, MM.Q.mg_nil, MM.Q.mg_consN, MM.Q.mg_tup, MM.Q.ev_expr, MM.Q.ev_expr1, MM.Q.ev_ret, MM.Q.ev_ret1, MM.Q.ev_retN, MM.Q.ev_skip, MM.Q.ev_brk, MM.Q.ev_cnt, MM.Q.ev_if, MM.Q.if_t, MM.Q.if_f, MM.Q.ev_for, MM.Q.ev_for1, MM.Q.ev_fz, MM.Q.fz_own, MM.Q.fzC_some, MM.Q.fzO_some, MM.Q.fz_d, MM.Q.fz_ref, MM.Q.stO_some, MM.Q.ev_st, MM.Q.ev_st1, MM.Q.ev_st2, MM.Q.ev_st3, MM.Q.ev_setIx, MM.Q.siO_some, MM.Q.ev_par, MM.Q.ev_par1, MM.Q.nones_zero, MM.Q.nones_succ, MM.Q.begin_eq, draw_int, dS_len, dS_app, dS_get, dS_set, sg_app, sg_app2, ag0, ag1, ag2, ag3, as0, as1, as2, as3, al1, al2, al3, dS_trim, dS_trim0, dS_trimc, Int.reduceToNat, Int.toNat_natCast, List.length_map,  MM.Q.ev_fn, MM.Q.fin_rt, MM.Q.fin_ref, MM.Q.fin_nx, MM.Q.trim_same, MM.Q.trim_app, MM.Q.ev_len, MM.Q.ev_lst_l, MM.Q.ev_lst_t, MM.Q.ev_lst_r, MM.Q.ev_lst_o, MM.Q.ev_l1, MM.Q.ev_sum, MM.Q.ev_all, MM.Q.ev_any, MM.Q.ev_isi, MM.Q.kind_str, MM.Q.kind_int, MM.Q.kind_bool, MM.Q.kind_none, MM.Q.kind_dict, MM.Q.kind_list, MM.Q.kind_tup, MM.Q.kit_ss, MM.Q.kit_is, MM.Q.kit_bs, MM.Q.kit_ns, MM.Q.kit_ds, MM.Q.kit_ls, MM.Q.kit_ts, MM.Q.ev_repr, MM.Q.ev_join, MM.Q.lenO_some, MM.Q.len_list, MM.Q.len_tup, MM.Q.lnO_some, MM.Q.len_ref, MM.Q.len_own, MM.Q.lisO_some, MM.Q.l1O_some, MM.Q.ints_map, MM.Q.bools_map, MM.Q.strs_map, MM.Q.isiO_some, MM.Q.jnO_some, MM.Q.len_st, MM.Q.add_st, MM.Q.mul_st, MM.Q.ix_st, MM.Q.sl_st, MM.Q.rev_st, MM.Q.eqv_st, MM.Q.st_dec, MM.Q.divmod_int, MM.Q.items_st, MM.Q.allD_mapf, MM.Q.strs_mapf, MM.Q.ints_mapf, MM.Q.bools_mapf, MM.Q.join_ones_some, MM.Q.sl_own, MM.Q.sl_ref, MM.Q.sl_list, MM.Q.slO_some, MM.Q.add_own, MM.Q.add_ref, MM.Q.add_list, MM.Q.catO_some, MM.Q.cutL_map, MM.Q.mg_tupL, MM.Q.ev_ch, MM.Q.ev_ch1, MM.Q.ev_ch2, MM.Q.ch_t, MM.Q.ch_f, MM.Q.ev_ch3, MM.Q.starts_str, MM.Q.ends_str, MM.Q.upper_str, MM.Q.part_str, MM.Q.ev_fmt, MM.Q.ev_fmtR, MM.Q.fmt_st, MM.Q.fmt_int, MM.Q.ev_js_nil, MM.Q.ev_js_cons, MM.Q.ev_js1, MM.Q.ev_js2, MM.Q.jsF_some, MM.Q.js_st, MM.Q.ev_pr_nil, MM.Q.ev_pr_cons, MM.Q.ev_pr1, MM.Q.ev_pr2, MM.Q.ev_pr3, MM.Q.ev_dct, MM.Q.ev_dct1, MM.Q.keys_one, MM.Q.dctF_one, MM.Q.tup_list, MM.Q.tup_tup, MM.Q.tup_st, MM.Q.lst_st, MM.Q.mul_list, MM.Q.mul_tup, MM.Q.ev_popK, MM.Q.in_own, MM.Q.in_ref, MM.Q.in_list, MM.Q.inO_t, MM.Q.inO_f, 
  List.map_cons, List.map_nil, List.length_cons, List.length_nil, List.append_nil, List.nil_append, List.cons_append, List.getElem?_cons_zero, List.getElem?_cons_succ, List.set_cons_zero, List.set_cons_succ, Bool.and_true, Bool.true_and, Option.bind_some, Option.map_some, Nat.reduceAdd, Nat.reduceSub, Nat.add_sub_cancel, Nat.sub_self])
--- imports deck sig
theorem mem_cut {α : Type} {l : List α} {lo hi : Option Int} {x : α} (h : x ∈ Q.cutL l lo hi) : x ∈ l := Q.cutL_mem h
/-- the letters, place by place -/
theorem let_at {i : Int} (h : 0 ≤ i) (h2 : i < 26) : ∃ d, atI lets i = some d ∧ d ∈ lets := by
  obtain ⟨d, hd, e⟩ := Q.atI_mem (xs := lets) h (by rw [lets_len]; omega)
  exact ⟨d, e, hd⟩
theorem wordB_of {l : List Nat} (h1 : 1 ≤ l.length) (h2 : l.length ≤ 8) (h3 : ∀ c ∈ l, c ∈ lets) : wordB l = true := by
  unfold wordB
  rw [decide_eq_true h1, decide_eq_true h2, Bool.true_and, Bool.true_and]
  exact List.all_eq_true.mpr fun c hc => decide_eq_true (h3 c hc)
theorem of_wordB {l : List Nat} (h : wordB l = true) : 1 ≤ l.length ∧ l.length ≤ 8 ∧ ∀ c ∈ l, c ∈ lets := by
  unfold wordB at h
  simp only [Bool.and_eq_true, decide_eq_true_eq, List.all_eq_true] at h
  exact ⟨h.1, h.2.1, h.2.2⟩
theorem lets_lt {c : Nat} (h : c ∈ lets) : c < 0x110000 := isG_ok (lets_good h)
/-- a list of words as data -/
theorem words_data {L : List (List Nat)} : allD (L.map mS) = some (L.map fun l => PyData.str (Q.st l)) := Q.allD_mapf
/-- drawn letters -/
theorem draw_lets {o1 o3 o4 o5 o6 o7 o8 o9 o10 o11 : Option Mv} {D : Dk} {T : Sg} {js : List Mv} (hj : js.length ≤ 1000) :
    ∃ (ts : List Nat) (E : Dk), lcLoop (mgName 8) mYes e_L_words_1 [some (.ref 1), o1, some (mS lets), o3, o4, o5, o6, o7, o8, o9, o10, o11] js [] (dS D T) = .ok (ts.map fun c => .d (.str (Q.st [c]))) (dS E T) ∧ ts.length = js.length ∧ ∀ d ∈ ts, d ∈ lets := by
  have h16 : sizeLine = 16777216 := PySem.sizeLine_eq
  have hs : lets.length ≤ sizeLine := by rw [lets_len]; omega
  obtain ⟨ys, E, e, e1, e2⟩ := @lc_dk T [some (.ref 1), o1, some (mS lets), o3, o4, o5, o6, o7, o8, o9, o10, o11] (mgName 8) e_L_words_1 (fun y => ∃ d, d ∈ lets ∧ y = .d (.str (Q.st [d]))) js D (fun x _ D => by
    obtain ⟨d, ed, hd⟩ := let_at (i := (dr D 26).val) (by omega) (by omega)
    refine ⟨[some (.ref 1), o1, some (mS lets), o3, o4, o5, o6, o7, some x, o9, o10, o11], .d (.str (Q.st [d])), nx D 26, rfl, ?_, rfl, d, hd, rfl⟩
    unfold e_L_words_1
    walk_at "mm"
    rw [ed]
    walk_at "mm") (by omega)
  obtain ⟨ts, rfl, ht⟩ := Q.pick_all e2
  exact ⟨ts, E, e, by rw [← e1, List.length_map], ht⟩
/-- one more, if it is not among them -/
def addW (L : List (List Nat)) (o : List Nat) : List (List Nat) := if o ∈ L then L else L ++ [o]
theorem addW_mem {L : List (List Nat)} {o l : List Nat} : l ∈ addW L o ↔ l ∈ L ∨ l = o := by
  unfold addW
  by_cases h : o ∈ L
  · rw [if_pos h]
    exact ⟨.inl, fun q => q.elim id fun e => e ▸ h⟩
  · rw [if_neg h, List.mem_append, List.mem_singleton]
theorem addW_nodup {L : List (List Nat)} {o : List Nat} (h : L.Nodup) : (addW L o).Nodup := by
  unfold addW
  by_cases e : o ∈ L
  · rw [if_pos e]; exact h
  · rw [if_neg e]
    exact List.nodup_append.mpr ⟨h, by simp, fun x hx y hy z => e (by rw [List.mem_singleton.mp hy] at z; exact z ▸ hx)⟩
theorem addW_len {L : List (List Nat)} {o : List Nat} : (addW L o).length ≤ L.length + 1 := by
  unfold addW
  split
  · omega
  · simp
theorem add_word {o0 o1 o2 o3 o4 o5 o6 o8 o9 o11 : Option Mv} {D : Dk} {T : Sg} {L : List (List Nat)} {o : List Nat} (hL : L.length ≤ 1000) (hw : ∀ l ∈ L, wordB l = true) (ho : ∀ c ∈ o, c < 0x110000) :
    (mIfS (mTst (mBin .ref (gInN true) (mVar 10) (mVar 7))) (mExpr (mBU "list" uAppend (mVar 7) (mCons (mVar 10) (mNil)))) (mSkip)) [o0, o1, o2, o3, o4, o5, o6, some (.own (T.length + 2)), o8, o9, some (mS o), o11] (dS D (T ++ [(true, Mo.lst (L.map mS))])) =
      .nx [o0, o1, o2, o3, o4, o5, o6, some (.own (T.length + 2)), o8, o9, some (mS o), o11] (dS D (T ++ [(true, Mo.lst ((addW L o).map mS))])) := by
  have h16 : sizeLine = 16777216 := PySem.sizeLine_eq
  have k1 := (Q.shaped_strs (ls := L) (fun l hl c hc => lets_lt ((of_wordB (hw l hl)).2.2 c hc))).1
  have k2 : SeqAt.shaped (.str (Q.st o)) = true := Q.ok_st ho
  walk_at "mm"
  rw [Q.any_strs]
  unfold addW
  by_cases h : o ∈ L
  · simp only [decide_eq_true h, Bool.not_true, if_pos h]
    walk_at "mm"
  · simp only [decide_eq_false h, Bool.not_false, if_neg h]
    walk_at "mm"
    rw [List.map_append]
    rfl
/-- one of three words -/
theorem one_word {d i w : Nat} {wd : List Nat} {r : Nat} (hd : d ∈ lets) (hw : wd.length = 7) (g3 : ∀ d ∈ wd, d ∈ lets) (hr : r ≤ 7) (b1 : w < 3) :
    ∃ o, atI [mS [d], mS (Q.cutL wd none (some (r : Nat)) ++ [d] ++ Q.cutL wd (some (r : Nat)) none), mS (Q.cutL (wd ++ [d]) none (some ((i : Int) % 8 + 1)))] (w : Int) = some (mS o) ∧ wordB o = true := by
  obtain ⟨y, hy, e⟩ := Q.atI_mem (xs := [mS [d], mS (Q.cutL wd none (some (r : Nat)) ++ [d] ++ Q.cutL wd (some (r : Nat)) none), mS (Q.cutL (wd ++ [d]) none (some ((i : Int) % 8 + 1)))]) (i := (w : Int)) (by omega) (by simp only [List.length_cons, List.length_nil]; omega)
  simp only [List.mem_cons, List.not_mem_nil, or_false] at hy
  rcases hy with rfl | rfl | rfl
  · exact ⟨_, e, wordB_of (by simp) (by simp) (by simpa using hd)⟩
  · refine ⟨_, e, wordB_of ?_ ?_ ?_⟩
    · rw [List.length_append, List.length_append, List.length_singleton]; omega
    · rw [Q.cutL_to, Q.cutL_from, List.length_append, List.length_append, List.length_singleton, List.length_take, List.length_drop]; omega
    · intro x hx
      rcases List.mem_append.mp hx with hx | hx
      · rcases List.mem_append.mp hx with hx | hx
        · exact g3 x (mem_cut hx)
        · rw [List.mem_singleton.mp hx]; exact hd
      · exact g3 x (mem_cut hx)
  · refine ⟨_, e, ?_⟩
    rw [show (i : Int) % 8 + 1 = ((i % 8 + 1 : Nat) : Int) by omega, Q.cutL_to]
    refine wordB_of ?_ ?_ ?_
    · rw [List.length_take, List.length_append, List.length_singleton]; omega
    · rw [List.length_take]; omega
    · intro x hx
      rcases List.mem_append.mp (List.mem_of_mem_take hx) with hx | hx
      · exact g3 x hx
      · rw [List.mem_singleton.mp hx]; exact hd
theorem words1 {s0 s1 : Option Mv} {D : Dk} {r1 r2 r4 : Nat} {T : Sg} {wd : List Nat} (hw : wd.length = 7) (g3 : ∀ d ∈ wd, d ∈ lets) (b1 : r1 < 3) (b4 : r4 < 7) :
    ∃ (L : List (List Nat)) (o8 o9 o10 : Option Mv), mLoop (mgName 8) b_L_words_1 (rangeL 0 24)
              [s0, s1, some (mS lets), some (.d (.int (r1 : Nat))), some (.d (.int (r2 : Nat))), some (mS wd), some (.d (.int (r4 : Nat))), some (.own (T.length + 2)), none, none, none, none]
              (dS D (T ++ [(true, Mo.lst [])])) =
      .nx [s0, s1, some (mS lets), some (.d (.int (r1 : Nat))), some (.d (.int (r2 : Nat))), some (mS wd), some (.d (.int (r4 : Nat))), some (.own (T.length + 2)), o8, o9, o10, none]
        (dS D (T ++ [(true, Mo.lst (L.map mS))])) ∧ L.length ≤ 24 ∧ L.Nodup ∧ ∀ l ∈ L, wordB l = true := by
  have h16 : sizeLine = 16777216 := PySem.sizeLine_eq
  have hs : lets.length ≤ sizeLine := by rw [lets_len]; omega
  obtain ⟨ρ2, S2, e, L, o8, o9, o10, rfl, rfl, h1, h2, h3⟩ := Q.loop_range (n := 24) (g := mgName 8) (P := fun i ρ S => ∃ (L : List (List Nat)) (o8 o9 o10 : Option Mv), ρ = [s0, s1, some (mS lets), some (.d (.int (r1 : Nat))), some (.d (.int (r2 : Nat))), some (mS wd), some (.d (.int (r4 : Nat))), some (.own (T.length + 2)), o8, o9, o10, none] ∧ S = dS D (T ++ [(true, Mo.lst (L.map mS))]) ∧ L.length ≤ i ∧ L.Nodup ∧ ∀ l ∈ L, wordB l = true) (b := b_L_words_1)
    (by
      rintro i hi ρ S ⟨L, o8, o9, o10, rfl, rfl, h1, h2, h3⟩
      obtain ⟨d, ed, hd⟩ := let_at (i := ((r2 : Int) + 5 * (i : Int)) % 26) (by omega) (by omega)
      obtain ⟨o, f, ho⟩ := one_word (i := i) hd hw g3 (by omega : r4 ≤ 7) b1
      refine ⟨_, [s0, s1, some (mS lets), some (.d (.int (r1 : Nat))), some (.d (.int (r2 : Nat))), some (mS wd), some (.d (.int (r4 : Nat))), some (.own (T.length + 2)), some (.d (.int (i : Nat))), some (mS [d]), some (mS o), none], dS D (T ++ [(true, Mo.lst ((addW L o).map mS))]), rfl, ?_, addW L o, _, _, _, rfl, rfl, Nat.le_trans addW_len (by omega), addW_nodup h2, fun l hl => ?_⟩
      · unfold b_L_words_1
        refine seq_to (ρ1 := [s0, s1, some (mS lets), some (.d (.int (r1 : Nat))), some (.d (.int (r2 : Nat))), some (mS wd), some (.d (.int (r4 : Nat))), some (.own (T.length + 2)), some (.d (.int (i : Nat))), some (mS [d]), o10, none]) (S1 := dS D (T ++ [(true, Mo.lst (L.map mS))])) ?_ (seq_to (ρ1 := [s0, s1, some (mS lets), some (.d (.int (r1 : Nat))), some (.d (.int (r2 : Nat))), some (mS wd), some (.d (.int (r4 : Nat))), some (.own (T.length + 2)), some (.d (.int (i : Nat))), some (mS [d]), some (mS o), none]) (S1 := dS D (T ++ [(true, Mo.lst (L.map mS))])) ?_ (add_word (by omega) h3 fun c hc => lets_lt ((of_wordB ho).2.2 c hc)))
        · walk_at "mm"
          rw [ed]
          walk_at "mm"
        · have t1 : (Q.cutL wd none (some (r4 : Int))).length ≤ wd.length := Q.cutL_len
          have t2 : (Q.cutL wd (some (r4 : Int)) none).length ≤ wd.length := Q.cutL_len
          walk_at "mm"
          rw [f]
          walk_at "mm"
      · rcases addW_mem.mp hl with hl | rfl
        · exact h3 l hl
        · exact ho)
    ⟨[], none, none, none, rfl, rfl, by simp, by simp, by simp⟩
  exact ⟨L, o8, o9, o10, e, h1, h2, h3⟩
theorem nodup_len {α : Type} [DecidableEq α] : ∀ {A B : List α}, A.Nodup → (∀ a ∈ A, a ∈ B) → A.length ≤ B.length
  | [], _, _, _ => Nat.zero_le _
  | a :: A, B, h, s => by
    have h1 := List.nodup_cons.mp h
    have hm := s a (List.mem_cons_self ..)
    have ih := nodup_len (A := A) (B := B.erase a) h1.2 fun x hx => (List.mem_erase_of_ne (fun e => h1.1 (by subst e; exact hx))).mpr (s x (List.mem_cons_of_mem _ hx))
    rw [List.length_erase_of_mem hm] at ih
    have : 0 < B.length := List.length_pos_of_mem hm
    rw [List.length_cons]; omega
def qq (j : Nat) : List Nat := [113, 113, 97 + j]
theorem words2 {s0 s1 s3 s4 s5 s6 o8 o9 o10 : Option Mv} {D : Dk} {T : Sg} {L0 : List (List Nat)} (h1 : L0.length ≤ 24) (h2 : L0.Nodup) (h3 : ∀ l ∈ L0, wordB l = true) :
    ∃ (L : List (List Nat)) (p8 p9 p10 : Option Mv), mLoop (mgName 8) b_L_words_2 (rangeL 0 14) [s0, s1, some (mS lets), s3, s4, s5, s6, some (.own (T.length + 2)), o8, o9, o10, none] (dS D (T ++ [(true, Mo.lst (L0.map mS))])) =
      .nx [s0, s1, some (mS lets), s3, s4, s5, s6, some (.own (T.length + 2)), p8, p9, p10, none] (dS D (T ++ [(true, Mo.lst (L.map mS))])) ∧ 14 ≤ L.length ∧ L.length ≤ 38 ∧ L.Nodup ∧ ∀ l ∈ L, wordB l = true := by
  have h16 : sizeLine = 16777216 := PySem.sizeLine_eq
  have hs : lets.length ≤ sizeLine := by rw [lets_len]; omega
  obtain ⟨ρ2, S2, e, L, o8, o9, o10, rfl, rfl, k1, k2, k3, k4⟩ := Q.loop_range (n := 14) (g := mgName 8) (ρ := [s0, s1, some (mS lets), s3, s4, s5, s6, some (.own (T.length + 2)), o8, o9, o10, none]) (S := dS D (T ++ [(true, Mo.lst (L0.map mS))])) (P := fun i ρ S => ∃ (L : List (List Nat)) (o8 o9 o10 : Option Mv), ρ = [s0, s1, some (mS lets), s3, s4, s5, s6, some (.own (T.length + 2)), o8, o9, o10, none] ∧ S = dS D (T ++ [(true, Mo.lst (L.map mS))]) ∧ L.length ≤ 24 + i ∧ L.Nodup ∧ (∀ l ∈ L, wordB l = true) ∧ ∀ j < i, qq j ∈ L) (b := b_L_words_2)
    (by
      rintro i hi ρ S ⟨L, o8, o9, o10, rfl, rfl, h1, h2, h3, h4⟩
      have ed : atI lets (i : Int) = some (97 + i) := by
        rw [Q.atI_nat (by omega) (by rw [lets_len]; omega), Int.toNat_natCast]
        have : ∀ j < 14, lets[j]? = some (97 + j) := by decide
        exact this i hi
      have hq : wordB (qq i) = true := by
        have : ∀ j < 14, wordB (qq j) = true := by decide
        exact this i hi
      refine ⟨_, [s0, s1, some (mS lets), s3, s4, s5, s6, some (.own (T.length + 2)), some (.d (.int (i : Nat))), o9, some (mS (qq i)), none], dS D (T ++ [(true, Mo.lst ((addW L (qq i)).map mS))]), rfl, ?_, addW L (qq i), _, _, _, rfl, rfl, Nat.le_trans addW_len (by omega), addW_nodup h2, fun l hl => ?_, fun j hj => ?_⟩
      · unfold b_L_words_2
        refine seq_to (ρ1 := [s0, s1, some (mS lets), s3, s4, s5, s6, some (.own (T.length + 2)), some (.d (.int (i : Nat))), o9, some (mS (qq i)), none]) (S1 := dS D (T ++ [(true, Mo.lst (L.map mS))])) ?_ (add_word (by omega) h3 fun c hc => lets_lt ((of_wordB hq).2.2 c hc))
        walk_at "mm"
        rw [ed, show Str.ofString "qq" = Q.st [113, 113] from by decide +kernel]
        walk_at "mm"
        rfl
      · rcases addW_mem.mp hl with hl | rfl
        · exact h3 l hl
        · exact hq
      · by_cases e : j = i
        · subst e; exact addW_mem.mpr (.inr rfl)
        · exact addW_mem.mpr (.inl (h4 j (by omega))))
    ⟨L0, _, _, _, rfl, rfl, by omega, h2, h3, fun j hj => absurd hj (Nat.not_lt_zero _)⟩
  refine ⟨L, o8, o9, o10, e, ?_, k1, k2, k3⟩
  have := nodup_len (A := (List.range 14).map qq) (B := L) (by decide +kernel) fun a ha => by
    obtain ⟨j, hj, rfl⟩ := List.mem_map.mp ha
    exact k4 j (List.mem_range.mp hj)
  simpa using this
theorem erase_map {α β : Type} {f : α → β} : ∀ (l : List α) (n : Nat), (l.map f).eraseIdx n = (l.eraseIdx n).map f
  | [], _ => rfl
  | _ :: _, 0 => rfl
  | a :: l, n + 1 => by
    show f a :: (l.map f).eraseIdx n = _
    rw [erase_map l n]; rfl
theorem erase_perm {α : Type} : ∀ (l : List α) (n : Nat) (h : n < l.length), (l[n] :: l.eraseIdx n).Perm l
  | _ :: _, 0, _ => List.Perm.refl _
  | a :: l, n + 1, h => by
    have h' : n < l.length := by simpa using h
    exact (List.Perm.swap a l[n] (l.eraseIdx n)).trans ((erase_perm l n h').cons a)
/-- words taken out of the list, one by one -/
theorem words3 {s1 s2 s3 s4 s5 s6 s7 s9 s10 : Option Mv} {D : Dk} {T : Sg} {u : Bool × Mo} {A : List (List Nat)} {m : Nat} (hm : m ≤ A.length) (hA : A.length ≤ 1000) (hn : A.Nodup) (hw : ∀ l ∈ A, wordB l = true) :
    ∃ (ws left : List (List Nat)) (E : Dk), lcLoop (mgName 8) mYes e_L_words_2
        [some (.ref 1), s1, s2, s3, s4, s5, s6, s7, none, s9, s10, some (.own (T.length + 3))] (rangeL 0 m) [] (dS D (T ++ [u, (true, Mo.lst (A.map mS))])) = .ok (ws.map mS) (dS E (T ++ [u, (true, Mo.lst (left.map mS))])) ∧
      ws.length = m ∧ ws.Nodup ∧ ∀ l ∈ ws, wordB l = true := by
  have h16 : sizeLine = 16777216 := PySem.sizeLine_eq
  have hr : (rangeL 0 m).length = m := by simp [rangeL]
  obtain ⟨zs, S2, e, hz, ws, left, E, rfl, rfl, hp⟩ := Q.lc_acc (ρ := [some (.ref 1), s1, s2, s3, s4, s5, s6, s7, none, s9, s10, some (.own (T.length + 3))]) (g := mgName 8) (te := e_L_words_2) (N := m) (xs := rangeL 0 m) (acc := []) (S := dS D (T ++ [u, (true, Mo.lst (A.map mS))]))
    (P := fun acc S => ∃ (ws left : List (List Nat)) (E : Dk), acc = ws.map mS ∧ S = dS E (T ++ [u, (true, Mo.lst (left.map mS))]) ∧ (ws ++ left).Perm A)
    (by
      rintro x - acc S hacc ⟨ws, left, E, rfl, rfl, hp⟩
      have hlen := hp.length_eq
      rw [List.length_append] at hlen
      rw [List.length_map] at hacc
      have hr : (dr E left.length).val < left.length := by omega
      refine ⟨[some (.ref 1), s1, s2, s3, s4, s5, s6, s7, some x, s9, s10, some (.own (T.length + 3))], mS left[(dr E left.length).val], dS (nx E left.length) (T ++ [u, (true, Mo.lst ((left.eraseIdx (dr E left.length).val).map mS))]), rfl, ?_, rfl, ws ++ [left[(dr E left.length).val]], left.eraseIdx (dr E left.length).val, nx E left.length, by rw [List.map_append]; rfl, rfl, ?_⟩
      · unfold e_L_words_2
        walk_at "mm"
        rw [Q.popK_some (y := mS left[(dr E left.length).val]) (by omega) (by rw [List.length_map]; omega) (by rw [List.length_map]; omega) (by rw [Int.toNat_natCast, List.getElem?_map, List.getElem?_eq_getElem hr]; rfl), Int.toNat_natCast]
        walk_at "mm"
        rw [erase_map]
      · rw [List.append_assoc]
        exact (List.Perm.append_left ws (erase_perm left _ hr)).trans hp)
    ⟨[], A, D, rfl, rfl, by simp⟩ (by rw [hr, List.length_nil, Nat.zero_add]) (by omega)
  have hnd := (hp.nodup_iff.mpr hn)
  exact ⟨ws, left, E, e, by simpa using hz, (List.nodup_append.mp hnd).1, fun l h => hw l (hp.mem_iff.mp (List.mem_append_left _ h))⟩
theorem spec_words (m : Nat) (hm : m ≤ 12) (D : Dk) (T : Sg) :
    ∃ (ws : List (List Nat)) (E : Dk), f_L_words [.ref 1, .d (.int (m : Nat))] (dS D T) = .ok (.d (.list (ws.map fun l => .str (Q.st l)))) (dS E T) ∧ ws.length = m ∧ ws.Nodup ∧ (∀ l ∈ ws, wordB l = true) := by
  have h16 : sizeLine = 16777216 := PySem.sizeLine_eq
  have hs : lets.length ≤ sizeLine := by rw [lets_len]; omega
  obtain ⟨wd, D1, e3, w3, g3⟩ := draw_lets (o1 := some (.d (.int (m : Nat)))) (o3 := some (.d (.int ((dr D 3).val : Nat)))) (o4 := some (.d (.int ((dr (nx D 3) 26).val : Nat)))) (o5 := none) (o6 := none) (o7 := none) (o8 := none) (o9 := none) (o10 := none) (o11 := none) (D := nx (nx D 3) 26) (T := T) (js := rangeL 0 7) (by decide)
  have hw : wd.length = 7 := w3
  obtain ⟨L, o8, o9, o10, e5, k1, k2, k3⟩ := words1 (s0 := some (.ref 1)) (s1 := some (.d (.int (m : Nat)))) (D := nx D1 7) (T := T) (r1 := (dr D 3).val) (r2 := (dr (nx D 3) 26).val) (r4 := (dr D1 7).val) hw g3 (by omega) (by omega)
  obtain ⟨L2, p8, p9, p10, e6, j0, j1, j2, j3⟩ := words2 (s0 := some (.ref 1)) (s1 := some (.d (.int (m : Nat)))) (s3 := some (.d (.int ((dr D 3).val : Nat)))) (s4 := some (.d (.int ((dr (nx D 3) 26).val : Nat)))) (s5 := some (mS wd)) (s6 := some (.d (.int ((dr D1 7).val : Nat)))) (o8 := o8) (o9 := o9) (o10 := o10) (D := nx D1 7) (T := T) k1 k2 k3
  obtain ⟨ws, left, E, e7, i1, i2, i3⟩ := words3 (s1 := some (.d (.int (m : Nat)))) (s2 := some (mS lets)) (s3 := some (.d (.int ((dr D 3).val : Nat)))) (s4 := some (.d (.int ((dr (nx D 3) 26).val : Nat)))) (s5 := some (mS wd)) (s6 := some (.d (.int ((dr D1 7).val : Nat)))) (s7 := some (.own (T.length + 2))) (s9 := p9) (s10 := p10) (D := nx D1 7) (T := T) (u := (true, Mo.lst (L2.map mS))) (A := L2.take (m + 2)) (m := m) (by rw [List.length_take]; omega) (by rw [List.length_take]; omega) (j2.sublist (List.take_sublist _ _)) (fun l h => j3 l (List.mem_of_mem_take h))
  refine ⟨ws, E, ?_, i1, i2, i3⟩
  unfold f_L_words m_L_words
  walk_at "mm"
  rw [lit_l, e3]
  walk_at "mm"
  rw [lit_e]
  walk_at "mm"
  rw [e5]
  walk_at "mm"
  rw [e6]
  walk_at "mm"
  rw [show (m : Int) + 2 = ((m + 2 : Nat) : Int) by omega, Q.cutL_to, e7]
  walk_at "mm"

end Law
end
section
set_option Elab.async false
set_option linter.all false
set_option maxRecDepth 100000
set_option maxHeartbeats 4000000
set_option autoImplicit false
namespace Law
open PySem PySem.Spec PyProof.Rows L2 MM
local macro_rules | `(tactic| walk_at "mm") => `(tactic| simp (disch := first | assumption | omega | exact MM.Q.shaped_int | exact MM.Q.shaped_nil | exact MM.Q.shaped_ints | exact MM.Q.shaped_bool | (refine of_eq_true (eq_true ?_); first | with_unfolding_all rfl | (simp only [MM.Q.free_d, MM.Q.free_ref, MM.Q.free_adr, MM.Q.frees_nil, MM.Q.frees_cons, MM.Q.frees_map, Bool.and_true, Bool.true_and]; done)) | (simp only [List.length_cons, List.length_nil, List.append_nil, List.map_cons, List.map_nil, List.length_append, List.length_map, List.length_reverse, MM.Q.dI_len, PySem.sizeLine_eq]; omega)) only [MM.Q.bind_ok, MM.Q.bind_exc, MM.Q.go_ok, MM.Q.go_exc, MM.Q.nox_ok, MM.Q.vr_some, MM.Q.ev_var, MM.Q.ev_c, MM.Q.ev_k, MM.Q.frzO_some, MM.Q.tupO_some, MM.Q.tupO_none, MM.Q.bear_val, MM.Q.bear_frz, MM.Q.bear_ref, MM.Q.bear_own, MM.Q.bear_tup, MM.Q.allD_nil, MM.Q.allD_cons, MM.Q.allD_map, MM.Q.bearO_some, MM.Q.ev_bin, MM.Q.ev_bin1, MM.Q.ev_bin2, MM.Q.add_int, MM.Q.sub_int, MM.Q.mul_int, MM.Q.mod_int, MM.Q.fdiv_int, MM.Q.pow_int, MM.Q.intB_int, MM.Q.datO_f, MM.Q.datO_t, MM.Q.data_d, MM.Q.data_ref, MM.Q.data_own, MM.Q.ev_eq_r, MM.Q.ev_eq_o, MM.Q.ev_eq_l, MM.Q.ev_eq_t, MM.Q.ev_eq_i, MM.Q.ev_eq_b, MM.Q.ev_eq_n, MM.Q.ev_eq_st, MM.Q.ev_eq_sf, MM.Q.eqO_some, MM.Q.eqC_t, MM.Q.eqC_f, MM.Q.eqv_nil, MM.Q.eqv_int, MM.Q.eqv_bool, MM.Q.in_str, MM.Q.notIn_str, MM.Q.is_bool, MM.Q.isnot_bool, MM.Q.tst_bool, MM.Q.ev_tst, MM.Q.ev_truth, MM.Q.ev_tru, MM.Q.truO_some, MM.Q.truth_bool, MM.Q.truth_int, MM.Q.truth_none, MM.Q.truth_list, MM.Q.truth_tup, MM.Q.ev_andB, MM.Q.ev_orB, MM.Q.ev_notB, MM.Q.andB_t, MM.Q.andB_f, MM.Q.orB_t, MM.Q.orB_f, MM.Q.ev_notB1, MM.Q.ev_and, MM.Q.ev_or, MM.Q.and_tB, MM.Q.and_fB, MM.Q.or_tB, MM.Q.or_fB, MM.Q.ev_not, MM.Q.ev_not1, MM.Q.notO_some, MM.Q.ev_ifE, MM.Q.ifE_t, MM.Q.ifE_f, MM.Q.ev_nil, MM.Q.ev_cons, MM.Q.ev_cons1, MM.Q.ev_cons2, MM.Q.ev_disp, MM.Q.disp_lst, MM.Q.disp_tup, MM.Q.frees_nil, MM.Q.frees_cons, MM.Q.free_d, MM.Q.free_ref, MM.Q.free_adr, MM.Q.dI_snoc, MM.Q.dI_len, MM.Q.allD_dI, MM.Q.dI_nil, MM.Q.allD_dIs, MM.Q.frees_map, MM.Q.ev_cb, MM.Q.ev_cb1, MM.Q.ev_call, MM.Q.ev_call1, MM.Q.ev_call0, MM.Q.ev_callK, MM.Q.ev_callK1, MM.Q.ev_callK2, MM.Q.ldd_some, MM.Q.laid_nil, MM.Q.laid_k, MM.Q.laid_p, MM.Q.ixO_some, MM.Q.ev_ix, MM.Q.ev_ix1, MM.Q.ev_ix2, MM.Q.ix_list, MM.Q.ix_tup, MM.Q.refS_lst, MM.Q.refS_tup, MM.Q.seq_ref, MM.Q.seq_own, MM.Q.seq_list, MM.Q.seq_tup, MM.Q.ixK_some, MM.Q.ix_ref, MM.Q.ix_own, MM.Q.listO_f, MM.Q.ev_list, MM.Q.at0, MM.Q.at1, MM.Q.at2, MM.Q.at3, MM.Q.at4, MM.Q.ixN0, MM.Q.ixN1, MM.Q.ixN2, MM.Q.ev_oN, MM.Q.ev_oS, MM.Q.oS_int, MM.Q.ev_sl, MM.Q.ev_sl1, MM.Q.ev_sl2, MM.Q.ev_sl3, MM.Q.ev_rev, MM.Q.rev_list, MM.Q.ev_bm, MM.Q.ev_bm1, MM.Q.cBM_t, MM.Q.ev_bm2, MM.Q.buO_some, MM.Q.ev_bu, MM.Q.ev_bu1, MM.Q.cBU_t, MM.Q.ev_bu2, MM.Q.ty_str, MM.Q.tyO_some, MM.Q.ty_ref, MM.Q.ty_own, MM.Q.ty_list, MM.Q.beq_ll, MM.Q.beq_ss, MM.Q.celO_some, MM.Q.cell_ref, MM.Q.cell_own, MM.Q.ev_append, MM.Q.appO_some, MM.Q.ev_extend, MM.Q.extO_some, MM.Q.ev_pop, MM.Q.popO_snoc, MM.Q.ev_ind, MM.Q.ev_ind1, MM.Q.ev_neg, MM.Q.neg_int, MM.Q.ev_iter, MM.Q.ev_it, MM.Q.itO_some, MM.Q.items_list, MM.Q.items_tup, MM.Q.ev_rg1, MM.Q.rg1_int, MM.Q.ev_lc, MM.Q.ev_lc1, MM.Q.ev_lc2, MM.Q.wipe_nil, MM.Q.wipe_cons, MM.Q.ev_seq, MM.Q.seq_nx, MM.Q.seq_rt, MM.Q.seq_exc, MM.Q.seq_bk, MM.Q.seq_ct, MM.Q.ev_asg, MM.Q.ev_asg1, MM.Q.nxO_some, MM.Q.mg_name, MM.Q.mg_nil, MM.Q.mg_consN, MM.Q.mg_tup, MM.Q.ev_expr, MM.Q.ev_expr1, MM.Q.ev_ret, MM.Q.ev_ret1, MM.Q.ev_retN, MM.Q.ev_skip, MM.Q.ev_brk, MM.Q.ev_cnt, MM.Q.ev_if, MM.Q.if_t, MM.Q.if_f, MM.Q.ev_for, MM.Q.ev_for1, MM.Q.ev_fz, MM.Q.fz_own, MM.Q.fzC_some, MM.Q.fzO_some, MM.Q.fz_d, MM.Q.fz_ref, MM.Q.stO_some, MM.Q.ev_st, MM.Q.ev_st1, MM.Q.ev_st2, MM.Q.ev_st3, MM.Q.ev_setIx, MM.Q.siO_some, MM.Q.ev_par, MM.Q.ev_par1, MM.Q.nones_zero, MM.Q.nones_succ, MM.Q.begin_eq,  MM.Q.ev_fn, MM.Q.fin_rt, MM.Q.fin_ref, MM.Q.fin_nx, MM.Q.trim_same, MM.Q.trim_app, MM.Q.ev_len, MM.Q.ev_lst_l, MM.Q.ev_lst_t, MM.Q.ev_lst_r, MM.Q.ev_lst_o, MM.Q.ev_l1, MM.Q.ev_sum, MM.Q.ev_all, MM.Q.ev_any, MM.Q.ev_isi, MM.Q.kind_str, MM.Q.kind_int, MM.Q.kind_bool, MM.Q.kind_none, MM.Q.kind_dict, MM.Q.kind_list, MM.Q.kind_tup, MM.Q.kit_ss, MM.Q.kit_is, MM.Q.kit_bs, MM.Q.kit_ns, MM.Q.kit_ds, MM.Q.kit_ls, MM.Q.kit_ts, MM.Q.ev_repr, MM.Q.ev_join, MM.Q.lenO_some, MM.Q.len_list, MM.Q.len_tup, MM.Q.lnO_some, MM.Q.len_ref, MM.Q.len_own, MM.Q.lisO_some, MM.Q.l1O_some, MM.Q.ints_map, MM.Q.bools_map, MM.Q.strs_map, MM.Q.isiO_some, MM.Q.jnO_some, MM.Q.len_st, MM.Q.add_st, MM.Q.mul_st, MM.Q.ix_st, MM.Q.sl_st, MM.Q.rev_st, MM.Q.eqv_st, MM.Q.st_dec, MM.Q.divmod_int, MM.Q.items_st, MM.Q.allD_mapf, MM.Q.strs_mapf, MM.Q.ints_mapf, MM.Q.bools_mapf, MM.Q.join_ones_some, MM.Q.sl_own, MM.Q.sl_ref, MM.Q.sl_list, MM.Q.slO_some, MM.Q.add_own, MM.Q.add_ref, MM.Q.add_list, MM.Q.catO_some, MM.Q.cutL_map, MM.Q.mg_tupL, MM.Q.ev_ch, MM.Q.ev_ch1, MM.Q.ev_ch2, MM.Q.ch_t, MM.Q.ch_f, MM.Q.ev_ch3, MM.Q.starts_str, MM.Q.ends_str, MM.Q.upper_str, MM.Q.part_str, MM.Q.ev_fmt, MM.Q.ev_fmtR, MM.Q.fmt_st, MM.Q.fmt_int, MM.Q.ev_js_nil, MM.Q.ev_js_cons, MM.Q.ev_js1, MM.Q.ev_js2, MM.Q.jsF_some, MM.Q.js_st, MM.Q.ev_pr_nil, MM.Q.ev_pr_cons, MM.Q.ev_pr1, MM.Q.ev_pr2, MM.Q.ev_pr3, MM.Q.ev_dct, MM.Q.ev_dct1, MM.Q.keys_one, MM.Q.dctF_one, MM.Q.tup_list, MM.Q.tup_tup, MM.Q.tup_st, MM.Q.lst_st, MM.Q.mul_list, MM.Q.mul_tup, MM.Q.ev_popK, MM.Q.in_own, MM.Q.in_ref, MM.Q.in_list, MM.Q.inO_t, MM.Q.inO_f, 
  List.map_cons, List.map_nil, List.length_cons, List.length_nil, List.append_nil, List.nil_append, List.cons_append, List.getElem?_cons_zero, List.getElem?_cons_succ, List.set_cons_zero, List.set_cons_succ, Bool.and_true, Bool.true_and, Option.bind_some, Option.map_some, Nat.reduceAdd, Nat.reduceSub, Nat.add_sub_cancel, Nat.sub_self])
--- imports 
/-- a walk whose turns change nothing -/
theorem loop_chk {i : Nat} {b : MS} {S : Sg} {R : Rho} : ∀ {xs : List Mv} {o : Option Mv}, (∀ x ∈ xs, b (R.set i (some x)) S = .nx (R.set i (some x)) S) → ∃ o', mLoop (mgName i) b xs (R.set i o) S = .nx (R.set i o') S
  | [], o, _ => ⟨o, rfl⟩
  | x :: xs, o, h => by
    obtain ⟨o', e⟩ := loop_chk (o := some x) (fun y hy => h y (List.mem_cons_of_mem _ hy))
    refine ⟨o', ?_⟩
    rw [Q.loop_on (ρ1 := R.set i (some x)) (by show some ((R.set i o).set i (some x)) = _; rw [List.set_set]) (h x (List.mem_cons_self ..)), e]
theorem allD_app {xs : List PyData} {r : List Mv} : allD (xs.map .d ++ r) = (allD r).map (xs ++ ·) := by
  induction xs with
  | nil => simp only [List.map_nil, List.nil_append]; cases allD r <;> rfl
  | cons x t ih =>
    show allD (.d x :: (t.map Mv.d ++ r)) = _
    rw [Q.allD_cons, ih]
    cases allD r <;> rfl

end Law
end
section
set_option Elab.async false
set_option linter.all false
set_option maxRecDepth 100000
set_option maxHeartbeats 4000000
set_option autoImplicit false
namespace Law
open PySem PySem.Spec PyProof.Rows L2 MM
local macro_rules | `(tactic| walk_at "mm") => `(tactic| simp (disch := first | assumption | omega | exact MM.Q.shaped_int | exact MM.Q.shaped_nil | exact MM.Q.shaped_ints | exact MM.Q.shaped_bool | (refine of_eq_true (eq_true ?_); first | with_unfolding_all rfl | (simp only [MM.Q.free_d, MM.Q.free_ref, MM.Q.free_adr, MM.Q.frees_nil, MM.Q.frees_cons, MM.Q.frees_map, Bool.and_true, Bool.true_and]; done)) | (simp only [List.length_cons, List.length_nil, List.append_nil, List.map_cons, List.map_nil, List.length_append, List.length_map, List.length_reverse, MM.Q.dI_len, PySem.sizeLine_eq]; omega)) only [MM.Q.bind_ok, MM.Q.bind_exc, MM.Q.go_ok, MM.Q.go_exc, MM.Q.nox_ok, MM.Q.vr_some, MM.Q.ev_var, MM.Q.ev_c, MM.Q.ev_k, MM.Q.frzO_some, MM.Q.tupO_some, MM.Q.tupO_none, MM.Q.bear_val, MM.Q.bear_frz, MM.Q.bear_ref, MM.Q.bear_own, MM.Q.bear_tup, MM.Q.allD_nil, MM.Q.allD_cons, MM.Q.allD_map, MM.Q.bearO_some, MM.Q.ev_bin, MM.Q.ev_bin1, MM.Q.ev_bin2, MM.Q.add_int, MM.Q.sub_int, MM.Q.mul_int, MM.Q.mod_int, MM.Q.fdiv_int, MM.Q.pow_int, MM.Q.intB_int, MM.Q.datO_f, MM.Q.datO_t, MM.Q.data_d, MM.Q.data_ref, MM.Q.data_own, MM.Q.ev_eq_r, MM.Q.ev_eq_o, MM.Q.ev_eq_l, MM.Q.ev_eq_t, MM.Q.ev_eq_i, MM.Q.ev_eq_b, MM.Q.ev_eq_n, MM.Q.ev_eq_st, MM.Q.ev_eq_sf, MM.Q.eqO_some, MM.Q.eqC_t, MM.Q.eqC_f, MM.Q.eqv_nil, MM.Q.eqv_int, MM.Q.eqv_bool, MM.Q.in_str, MM.Q.notIn_str, MM.Q.is_bool, MM.Q.isnot_bool, MM.Q.tst_bool, MM.Q.ev_tst, MM.Q.ev_truth, MM.Q.ev_tru, MM.Q.truO_some, MM.Q.truth_bool, MM.Q.truth_int, MM.Q.truth_none, MM.Q.truth_list, MM.Q.truth_tup, MM.Q.ev_andB, MM.Q.ev_orB, MM.Q.ev_notB, MM.Q.andB_t, MM.Q.andB_f, MM.Q.orB_t, MM.Q.orB_f, MM.Q.ev_notB1, MM.Q.ev_and, MM.Q.ev_or, MM.Q.and_tB, MM.Q.and_fB, MM.Q.or_tB, MM.Q.or_fB, MM.Q.ev_not, MM.Q.ev_not1, MM.Q.notO_some, MM.Q.ev_ifE, MM.Q.ifE_t, MM.Q.ifE_f, MM.Q.ev_nil, MM.Q.ev_cons, MM.Q.ev_cons1, MM.Q.ev_cons2, MM.Q.ev_disp, MM.Q.disp_lst, MM.Q.disp_tup, MM.Q.frees_nil, MM.Q.frees_cons, MM.Q.free_d, MM.Q.free_ref, MM.Q.free_adr, MM.Q.dI_snoc, MM.Q.dI_len, MM.Q.allD_dI, MM.Q.dI_nil, MM.Q.allD_dIs, MM.Q.frees_map, MM.Q.ev_cb, MM.Q.ev_cb1, MM.Q.ev_call, MM.Q.ev_call1, MM.Q.ev_call0, MM.Q.ev_callK, MM.Q.ev_callK1, MM.Q.ev_callK2, MM.Q.ldd_some, MM.Q.laid_nil, MM.Q.laid_k, MM.Q.laid_p, MM.Q.ixO_some, MM.Q.ev_ix, MM.Q.ev_ix1, MM.Q.ev_ix2, MM.Q.ix_list, MM.Q.ix_tup, MM.Q.refS_lst, MM.Q.refS_tup, MM.Q.seq_ref, MM.Q.seq_own, MM.Q.seq_list, MM.Q.seq_tup, MM.Q.ixK_some, MM.Q.ix_ref, MM.Q.ix_own, MM.Q.listO_f, MM.Q.ev_list, MM.Q.at0, MM.Q.at1, MM.Q.at2, MM.Q.at3, MM.Q.at4, MM.Q.ixN0, MM.Q.ixN1, MM.Q.ixN2, MM.Q.ev_oN, MM.Q.ev_oS, MM.Q.oS_int, MM.Q.ev_sl, MM.Q.ev_sl1, MM.Q.ev_sl2, MM.Q.ev_sl3, MM.Q.ev_rev, MM.Q.rev_list, MM.Q.ev_bm, MM.Q.ev_bm1, MM.Q.cBM_t, MM.Q.ev_bm2, MM.Q.buO_some, MM.Q.ev_bu, MM.Q.ev_bu1, MM.Q.cBU_t, MM.Q.ev_bu2, MM.Q.ty_str, MM.Q.tyO_some, MM.Q.ty_ref, MM.Q.ty_own, MM.Q.ty_list, MM.Q.beq_ll, MM.Q.beq_ss, MM.Q.celO_some, MM.Q.cell_ref, MM.Q.cell_own, MM.Q.ev_append, MM.Q.appO_some, MM.Q.ev_extend, MM.Q.extO_some, MM.Q.ev_pop, MM.Q.popO_snoc, MM.Q.ev_ind, MM.Q.ev_ind1, MM.Q.ev_neg, MM.Q.neg_int, MM.Q.ev_iter, MM.Q.ev_it, MM.Q.itO_some, MM.Q.items_list, MM.Q.items_tup, MM.Q.ev_rg1, MM.Q.rg1_int, MM.Q.ev_lc, MM.Q.ev_lc1, MM.Q.ev_lc2, MM.Q.wipe_nil, MM.Q.wipe_cons, MM.Q.ev_seq, MM.Q.seq_nx, MM.Q.seq_rt, MM.Q.seq_exc, MM.Q.seq_bk, MM.Q.seq_ct, MM.Q.ev_asg, MM.Q.ev_asg1, MM.Q.nxO_some, MM.Q.mg_name, MM.Q.mg_nil, MM.Q.mg_consN, MM.Q.mg_tup, MM.Q.ev_expr, MM.Q.ev_expr1, MM.Q.ev_ret, MM.Q.ev_ret1, MM.Q.ev_retN, MM.Q.ev_skip, MM.Q.ev_brk, MM.Q.ev_cnt, MM.Q.ev_if, MM.Q.if_t, MM.Q.if_f, MM.Q.ev_for, MM.Q.ev_for1, MM.Q.ev_fz, MM.Q.fz_own, MM.Q.fzC_some, MM.Q.fzO_some, MM.Q.fz_d, MM.Q.fz_ref, MM.Q.stO_some, MM.Q.ev_st, MM.Q.ev_st1, MM.Q.ev_st2, MM.Q.ev_st3, MM.Q.ev_setIx, MM.Q.siO_some, MM.Q.ev_par, MM.Q.ev_par1, MM.Q.nones_zero, MM.Q.nones_succ, MM.Q.begin_eq, draw_int, dS_len, dS_app, dS_get, dS_set, sg_app, sg_app2, ag0, ag1, ag2, ag3, as0, as1, as2, as3, al1, al2, al3, dS_trim, dS_trim0, dS_trimc, Int.reduceToNat, Int.toNat_natCast, List.length_map, allD_app, spec_name_with, spec_L_called, spec_mark_in, spec_label_in, nameL_mark, nameL_label, decide_true, decide_false, Bool.not_true, Bool.not_false, Bool.false_and, Bool.and_false, Bool.true_or, Bool.or_true, Bool.or_false, Bool.false_or, ne_eq, not_true_eq_false, not_false_eq_true, beq_self_eq_true,  MM.Q.ev_fn, MM.Q.fin_rt, MM.Q.fin_ref, MM.Q.fin_nx, MM.Q.trim_same, MM.Q.trim_app, MM.Q.ev_len, MM.Q.ev_lst_l, MM.Q.ev_lst_t, MM.Q.ev_lst_r, MM.Q.ev_lst_o, MM.Q.ev_l1, MM.Q.ev_sum, MM.Q.ev_all, MM.Q.ev_any, MM.Q.ev_isi, MM.Q.kind_str, MM.Q.kind_int, MM.Q.kind_bool, MM.Q.kind_none, MM.Q.kind_dict, MM.Q.kind_list, MM.Q.kind_tup, MM.Q.kit_ss, MM.Q.kit_is, MM.Q.kit_bs, MM.Q.kit_ns, MM.Q.kit_ds, MM.Q.kit_ls, MM.Q.kit_ts, MM.Q.ev_repr, MM.Q.ev_join, MM.Q.lenO_some, MM.Q.len_list, MM.Q.len_tup, MM.Q.lnO_some, MM.Q.len_ref, MM.Q.len_own, MM.Q.lisO_some, MM.Q.l1O_some, MM.Q.ints_map, MM.Q.bools_map, MM.Q.strs_map, MM.Q.isiO_some, MM.Q.jnO_some, MM.Q.len_st, MM.Q.add_st, MM.Q.mul_st, MM.Q.ix_st, MM.Q.sl_st, MM.Q.rev_st, MM.Q.eqv_st, MM.Q.st_dec, MM.Q.divmod_int, MM.Q.items_st, MM.Q.allD_mapf, MM.Q.strs_mapf, MM.Q.ints_mapf, MM.Q.bools_mapf, MM.Q.join_ones_some, MM.Q.sl_own, MM.Q.sl_ref, MM.Q.sl_list, MM.Q.slO_some, MM.Q.add_own, MM.Q.add_ref, MM.Q.add_list, MM.Q.catO_some, MM.Q.cutL_map, MM.Q.mg_tupL, MM.Q.ev_ch, MM.Q.ev_ch1, MM.Q.ev_ch2, MM.Q.ch_t, MM.Q.ch_f, MM.Q.ev_ch3, MM.Q.starts_str, MM.Q.ends_str, MM.Q.upper_str, MM.Q.part_str, MM.Q.ev_fmt, MM.Q.ev_fmtR, MM.Q.fmt_st, MM.Q.fmt_int, MM.Q.ev_js_nil, MM.Q.ev_js_cons, MM.Q.ev_js1, MM.Q.ev_js2, MM.Q.jsF_some, MM.Q.js_st, MM.Q.ev_pr_nil, MM.Q.ev_pr_cons, MM.Q.ev_pr1, MM.Q.ev_pr2, MM.Q.ev_pr3, MM.Q.ev_dct, MM.Q.ev_dct1, MM.Q.keys_one, MM.Q.dctF_one, MM.Q.tup_list, MM.Q.tup_tup, MM.Q.tup_st, MM.Q.lst_st, MM.Q.mul_list, MM.Q.mul_tup, MM.Q.ev_popK, MM.Q.in_own, MM.Q.in_ref, MM.Q.in_list, MM.Q.inO_t, MM.Q.inO_f, 
  List.map_cons, List.map_nil, List.length_cons, List.length_nil, List.append_nil, List.nil_append, List.cons_append, List.getElem?_cons_zero, List.getElem?_cons_succ, List.set_cons_zero, List.set_cons_succ, Bool.and_true, Bool.true_and, Option.bind_some, Option.map_some, Nat.reduceAdd, Nat.reduceSub, Nat.add_sub_cancel, Nat.sub_self])
--- imports +b k02right k02like k02oth k02txt nmp nmi nml lcalled words gen
theorem chk_it {o0 o1 o2 o3 o4 o5 o6 o7 o9 : Option Mv} {S : Sg} {d : PyData} (h : Rt d) : b_law_2 [o0, o1, o2, o3, o4, o5, o6, o7, some (.d d), o9] S = .nx [o0, o1, o2, o3, o4, o5, o6, o7, some (.d d), o9] S := by
  unfold b_law_2
  walk_at "mm"
  rw [h.right]
  walk_at "mm"
/-- each written otherwise -/
theorem draw_others {o0 o2 o3 o4 o5 o6 o7 o8 o9 : Option Mv} {D : Dk} {T : Sg} : ∀ {ls : List (List Nat)}, (∀ l ∈ ls, Gd 1000 l) → ls.length ≤ 1000 →
    ∃ (ms : List (List Nat)) (E : Dk), lcLoop (mgName 9) mYes e_law_1 [o0, some (.ref 1), o2, o3, o4, o5, o6, o7, o8, o9] (ls.map mS) [] (dS D T) = .ok (ms.map mS) (dS E T) ∧ ms.length = ls.length ∧ ∀ m ∈ ms, Gd 2002 m := by
  intro ls h hl
  obtain ⟨ys, E, e, e1, e2⟩ := @lc_dk T [o0, some (.ref 1), o2, o3, o4, o5, o6, o7, o8, o9] (mgName 9) e_law_1 (fun y => ∃ m, Gd 2002 m ∧ y = mS m) (ls.map mS) D (fun x hx D => by
    obtain ⟨l, hl, rfl⟩ := List.mem_map.mp hx
    obtain ⟨m, E, e, hm⟩ := spec_otherwise (h l hl) (by decide) D T
    refine ⟨[o0, some (.ref 1), o2, o3, o4, o5, o6, o7, o8, some (mS l)], mS m, E, rfl, ?_, rfl, m, hm, rfl⟩
    unfold e_law_1
    walk_at "mm"
    rw [e]) (by rw [List.length_map]; omega)
  obtain ⟨ms, rfl, hm⟩ := Q.pick_all (p := Gd 2002) (h := mS) e2
  exact ⟨ms, E, e, by simpa using e1, hm⟩
theorem turn_ok {o0 o2 o3 o4 o5 o6 o7 o8 o9 : Option Mv} (D : Dk) : ∃ (p3 p4 p5 p6 p7 p8 p9 : Option Mv) (E : Dk), b_law_1 [o0, some (.ref 1), o2, o3, o4, o5, o6, o7, o8, o9] (dS D []) = .nx [o0, some (.ref 1), o2, p3, p4, p5, p6, p7, p8, p9] (dS E []) := by
  have h16 : sizeLine = 16777216 := PySem.sizeLine_eq
  obtain ⟨ws, D1, e1, hw, -, hw2⟩ := spec_words 2 (by decide) D []
  obtain ⟨w, z, rfl⟩ : ∃ w z, ws = [w, z] := by
    match ws, hw with
    | [w, z], _ => exact ⟨w, z, rfl⟩
  have gw := hw2 w (by simp)
  have gz := hw2 z (by simp)
  have lw := of_wordB gw
  have lz := of_wordB gz
  obtain ⟨k, D2, e2, hk⟩ := spec_like D1 []
  have lk := (of_markB hk).1
  have gn := nameL_good hk gw
  have ln := gn.len
  obtain ⟨t, D3, e3, ht⟩ := spec_thing_text D2 []
  have lt := ht.len
  have e8 : Str.ofString "abcdefgh" = Q.st [97, 98, 99, 100, 101, 102, 103, 104] := by decide +kernel
  have g8 : Gd 8 [97, 98, 99, 100, 101, 102, 103, 104] := ⟨by decide, by decide⟩
  generalize ha : Q.cutL [97, 98, 99, 100, 101, 102, 103, 104] none (some ((9 : Int) - (z.length : Nat))) = a
  have ga : Gd 8 a := by rw [← ha]; exact g8.cut
  have la := ga.len
  have m3 : -(2 ^ 63) ≤ (3 : Int) ∧ (3 : Int) < 2 ^ 63 ∧ (3 : Int).toNat * w.length ≤ sizeLine := ⟨by decide, by decide, by show 3 * w.length ≤ _; omega⟩
  have gza : Gd 16 (z ++ a) := (word_good gz).app ga
  have gw3 : Gd 24 (List.replicate 3 w).flatten := ((word_good gw).rep (k := 3)).mono (by decide)
  obtain ⟨ms, D4, e4, lm, gm⟩ := draw_others (o0 := o0) (o2 := o2) (o3 := some (mS w)) (o4 := some (mS z)) (o5 := some (mS k)) (o6 := some (mS (nameL k w))) (o7 := some (.d (.list [pS w, pS (z ++ a), pS (List.replicate 3 w).flatten, pS k, pS (nameL k w), pS t]))) (o8 := o8) (o9 := none) (D := D3) (T := [])
    (ls := [w, z ++ a, (List.replicate 3 w).flatten, k, nameL k w, w, z ++ a, (List.replicate 3 w).flatten, k, nameL k w, w, z ++ a, (List.replicate 3 w).flatten, k, nameL k w]) (by
      intro l hl
      simp only [List.mem_cons, List.not_mem_nil, or_false] at hl
      have q1 := (word_good gw).mono (m := 1000) (by decide)
      have q2 := gza.mono (m := 1000) (by decide)
      have q3 := gw3.mono (m := 1000) (by decide)
      have q4 := (mark_good hk).mono (m := 1000) (by decide)
      have q5 := gn.mono (m := 1000) (by decide)
      rcases hl with rfl | rfl | rfl | rfl | rfl | rfl | rfl | rfl | rfl | rfl | rfl | rfl | rfl | rfl | rfl <;> assumption) (by simp only [List.length_cons, List.length_nil]; decide)
  have s1 : SeqAt.shaped (.tuple [pS k, pS w, pS k, pS w]) = true := rp_shaped (by simp only [rp_tup, rps_cons, rps_nil, rp_st (mark_good hk), rp_st (word_good gw)]; rfl) (by simp only [depth_tup, depth_cons, depth_nil, depth_st]; decide)
  obtain ⟨o', e5⟩ := loop_chk (i := 8) (b := b_law_2) (S := dS D4 []) (R := [o0, some (.ref 1), o2, some (mS w), some (mS z), some (mS k), some (mS (nameL k w)), some (.d (.list [pS w, pS (z ++ a), pS (List.replicate 3 w).flatten, pS k, pS (nameL k w), pS t])), o8, o9])
    (xs := ([pS w, pS (z ++ a), pS (List.replicate 3 w).flatten, pS k, pS (nameL k w), pS t] ++ (ms.map pS) ++ oddL (nameL k w) ++ [pS w]).map Mv.d) (o := o8) (by
      intro x hx
      obtain ⟨d, hd, rfl⟩ := List.mem_map.mp hx
      refine chk_it ?_
      simp only [List.mem_append, List.mem_cons, List.not_mem_nil, or_false] at hd
      rcases hd with ((hd | hd) | hd) | rfl
      · rcases hd with rfl | rfl | rfl | rfl | rfl | rfl
        · exact .st (word_good gw) (by decide)
        · exact .st gza (by decide)
        · exact .st gw3 (by decide)
        · exact .st (mark_good hk) (by decide)
        · exact .st gn (by decide)
        · exact .st ht (by decide)
      · obtain ⟨l, hl, rfl⟩ := List.mem_map.mp hd
        exact .st (gm l hl) (by decide)
      · exact odd_right gn (by decide) d hd
      · exact .st (word_good gw) (by decide))
  refine ⟨some (mS w), some (mS z), some (mS k), some (mS (nameL k w)), some (.d (.list [pS w, pS (z ++ a), pS (List.replicate 3 w).flatten, pS k, pS (nameL k w), pS t])), o', o9, D4, ?_⟩
  unfold b_law_1
  walk_at "mm"
  rw [show f_L_words [Mv.ref 1, Mv.d (PyData.int 2)] (dS D []) = _ from e1]
  walk_at "mm"
  rw [e2]
  walk_at "mm"
  have mt : ([pS k, pS w] : List PyData) ≠ [] ∧ (2 : Int) ≤ 2 ∧ (2 : Int) ≤ 1000 ∧ [pS k, pS w].length ≤ 1000 := ⟨by simp, by decide, by decide, by simp⟩
  have ml : -(2 ^ 63) ≤ (3 : Int) ∧ (3 : Int) < 2 ^ 63 ∧ [pS w, pS (z ++ a), pS (List.replicate 3 w).flatten, pS k, pS (nameL k w)].length * (3 : Int).toNat ≤ sizeLine := ⟨by decide, by decide, by rw [h16]; simp⟩
  rw [Q.mul_tup mt]
  walk_at "mm"
  rw [show (List.replicate 2 [pS k, pS w]).flatten = [pS k, pS w, pS k, pS w] from rfl]
  walk_at "mm"
  rw [show PyData.eqv (.tuple [pS k, pS w, pS k, pS w]) (.tuple [pS k, pS w, pS k, pS w]) = true by simp [PyData.eqv, PyData.eqvAll]]
  walk_at "mm"
  rw [e8]
  walk_at "mm"
  rw [ha]
  walk_at "mm"
  rw [e3]
  walk_at "mm"
  rw [show (some (5 : Int)) = some ((5 : Nat) : Int) from rfl, Q.cutL_to]
  simp only [List.take_succ_cons, List.take_zero]
  rw [Q.mul_list ml]
  walk_at "mm"
  rw [show (List.replicate 3 [pS w, pS (z ++ a), pS (List.replicate 3 w).flatten, pS k, pS (nameL k w)]).flatten = [w, z ++ a, (List.replicate 3 w).flatten, k, nameL k w, w, z ++ a, (List.replicate 3 w).flatten, k, nameL k w, w, z ++ a, (List.replicate 3 w).flatten, k, nameL k w].map pS from rfl]
  rw [List.map_map, show (Mv.d ∘ pS) = mS from rfl, e4]
  have lm' : ms.length = 15 := lm
  have lo : (oddL (nameL k w)).length = 20 := rfl
  walk_at "mm"
  rw [spec_odd gn (by decide)]
  walk_at "mm"
  rw [Q.cutL_one]
  simp only [List.take_succ_cons, List.take_zero]
  walk_at "mm"
  exact e5
theorem law_good (ns : List Int) (hn : ns.length ≤ 63) : ∃ S', f_law [.d (.list (ns.map PyData.int))] [] = .ok (.d (.bool true)) S' := by
  obtain ⟨D, e0⟩ := deck_eq hn
  obtain ⟨ρ2, S2, e, p2, p3, p4, p5, p6, p7, p8, p9, E, rfl, rfl⟩ := Q.loop_ex (g := mgName 2) (b := b_law_1) (xs := rangeL 0 10) (ρ := [some (.d (.list (ns.map PyData.int))), some (.ref 1), none, none, none, none, none, none, none, none]) (S := dS D [])
    (P := fun ρ S => ∃ p2 p3 p4 p5 p6 p7 p8 p9 E, ρ = [some (.d (.list (ns.map PyData.int))), some (.ref 1), p2, p3, p4, p5, p6, p7, p8, p9] ∧ S = dS E []) (by
      rintro x - ρ S ⟨p2, p3, p4, p5, p6, p7, p8, p9, E, rfl, rfl⟩
      obtain ⟨q3, q4, q5, q6, q7, q8, q9, F, e⟩ := turn_ok (o0 := some (.d (.list (ns.map PyData.int)))) (o2 := some x) (o3 := p3) (o4 := p4) (o5 := p5) (o6 := p6) (o7 := p7) (o8 := p8) (o9 := p9) E
      exact ⟨_, _, _, rfl, e, _, _, _, _, _, _, _, _, _, rfl, rfl⟩) ⟨_, _, _, _, _, _, _, _, _, rfl, rfl⟩
  unfold f_law m_law
  walk_at "mm"
  rw [e0]
  walk_at "mm"
  rw [e]
  walk_at "mm"
  exact ⟨_, rfl⟩

end Law
end
section
open PySem PySem.W PyProof.Rows
set_option maxHeartbeats 0 in
theorem PySem.Challenge.cw_madestore_k02_things_labels_marks_names_holds : PySem.Challenge.rw_madestore_k02_things_labels_marks_names.Holds := by
  w_on; o_law; k_head; (case hw => w_witness2)
  k_fill
  refine MM.walk_end (l := PySem.Challenge.rw_madestore_k02_things_labels_marks_names) (n := 63) (k := 4) (x := "_law_script") rfl (by decide) rfl ⟨rfl, by decide, by decide⟩ (fun w h Y => PySem.W.kIn_of Y) ?F
  case F =>
    intro w mg fa h KX G hmg
    obtain ⟨fd, m, h1, h2, h3⟩ := by
      refine' Law.all_mk (l := PySem.Challenge.rw_madestore_k02_things_labels_marks_names) (w := w) KX G hmg ?h_MOST ?h_SIGNS ?h_LETTERS ?h_LONGEST_LABEL ?h_FIGURES ?h_LONG ?h_BEGIN ?h_BETWEEN ?h_END ?h_AT ?h_all ?h_isinstance ?h_len ?h_list ?h_range ?h_repr ?h_str ?h_sum ?h_tuple ?g_is_thing ?l_is_thing ?c_is_thing ?p_is_thing ?g_is_label ?l_is_label ?c_is_label ?p_is_label ?g_is_mark ?l_is_mark ?c_is_mark ?p_is_mark ?g_name_with ?l_name_with ?c_name_with ?p_name_with ?g_mark_in ?l_mark_in ?c_mark_in ?p_mark_in ?g_label_in ?l_label_in ?c_label_in ?p_label_in ?g_L_deck ?l_L_deck ?c_L_deck ?p_L_deck ?g_L_draw ?l_L_draw ?c_L_draw ?p_L_draw ?g_L_signs ?l_L_signs ?c_L_signs ?p_L_signs ?g_L_is_word ?l_L_is_word ?c_L_is_word ?p_L_is_word ?g_L_is_mark ?l_L_is_mark ?c_L_is_mark ?p_L_is_mark ?g_L_called ?l_L_called ?c_L_called ?p_L_called ?g_L_odd ?l_L_odd ?c_L_odd ?p_L_odd ?g_is_name ?l_is_name ?c_is_name ?p_is_name ?g_L_words ?l_L_words ?c_L_words ?p_L_words ?g_L_is_called ?l_L_is_called ?c_L_is_called ?p_L_is_called ?g_L_like_mark ?l_L_like_mark ?c_L_like_mark ?p_L_like_mark ?g_L_otherwise ?l_L_otherwise ?c_L_otherwise ?p_L_otherwise ?g_L_thing_text ?l_L_thing_text ?c_L_thing_text ?p_L_thing_text ?g_L_right ?l_L_right ?c_L_right ?p_L_right ?g_law ?l_law ?c_law ?p_law
      (case h_MOST => k_is); (case h_SIGNS => k_is); (case h_LETTERS => k_is); (case h_LONGEST_LABEL => k_is); (case h_FIGURES => k_is); (case h_LONG => k_is); (case h_BEGIN => k_is); (case h_BETWEEN => k_is); (case h_END => k_is); (case h_AT => k_is); (case h_all => k_is); (case h_isinstance => k_is); (case h_len => k_is); (case h_list => k_is); (case h_range => k_is); (case h_repr => k_is); (case h_str => k_is); (case h_sum => k_is); (case h_tuple => k_is); (case g_is_thing => k_is); (case l_is_thing => k_is); (case c_is_thing => k_is); (case p_is_thing => k_is); (case g_is_label => k_is); (case l_is_label => k_is); (case c_is_label => k_is); (case p_is_label => k_is); (case g_is_mark => k_is); (case l_is_mark => k_is); (case c_is_mark => k_is); (case p_is_mark => k_is); (case g_name_with => k_is); (case l_name_with => k_is); (case c_name_with => k_is); (case p_name_with => k_is); (case g_mark_in => k_is); (case l_mark_in => k_is); (case c_mark_in => k_is); (case p_mark_in => k_is); (case g_label_in => k_is); (case l_label_in => k_is); (case c_label_in => k_is); (case p_label_in => k_is); (case g_L_deck => k_is); (case l_L_deck => k_is); (case c_L_deck => k_is); (case p_L_deck => k_is); (case g_L_draw => k_is); (case l_L_draw => k_is); (case c_L_draw => k_is); (case p_L_draw => k_is); (case g_L_signs => k_is); (case l_L_signs => k_is); (case c_L_signs => k_is); (case p_L_signs => k_is); (case g_L_is_word => k_is); (case l_L_is_word => k_is); (case c_L_is_word => k_is); (case p_L_is_word => k_is); (case g_L_is_mark => k_is); (case l_L_is_mark => k_is); (case c_L_is_mark => k_is); (case p_L_is_mark => k_is); (case g_L_called => k_is); (case l_L_called => k_is); (case c_L_called => k_is); (case p_L_called => k_is); (case g_L_odd => k_is); (case l_L_odd => k_is); (case c_L_odd => k_is); (case p_L_odd => k_is); (case g_is_name => k_is); (case l_is_name => k_is); (case c_is_name => k_is); (case p_is_name => k_is); (case g_L_words => k_is); (case l_L_words => k_is); (case c_L_words => k_is); (case p_L_words => k_is); (case g_L_is_called => k_is); (case l_L_is_called => k_is); (case c_L_is_called => k_is); (case p_L_is_called => k_is); (case g_L_like_mark => k_is); (case l_L_like_mark => k_is); (case c_L_like_mark => k_is); (case p_L_like_mark => k_is); (case g_L_otherwise => k_is); (case l_L_otherwise => k_is); (case c_L_otherwise => k_is); (case p_L_otherwise => k_is); (case g_L_thing_text => k_is); (case l_L_thing_text => k_is); (case c_L_thing_text => k_is); (case p_L_thing_text => k_is); (case g_L_right => k_is); (case l_L_right => k_is); (case c_L_right => k_is); (case p_L_right => k_is); (case g_law => k_is); (case l_law => k_is); (case c_law => k_is); (case p_law => k_is)
    exact ⟨fd, m, h1, h2, fun ns hn => by rw [h3]; exact Law.law_good ns hn⟩
end
