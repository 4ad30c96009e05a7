import PyProof.Rows.All
import HandS.ForMost
import HandS.Exc
import HandS.TryOnly
import HandS.TryMany
import HandS.ExcInit
import HandS.ExcField
import HandS.ExcIs
import HandS.WordsExc
import HandS.CallSlots
import HandS.Walk
import HandS.IsInst
import HandS.Wide
import HandS.Gcd
import HandS.Conv
import HandS.SortInts
import HandS.Property
import HandS.TupAny
import HandS.Deep
import HandS.DictComp
import HandS.Rev
import HandS.Zip
import HandS.TupMul
import HandS.TupLen
import HandS.RaiseMore
import HandS.Codes
import HandS.EndBits
import KE.GoesMore
import HandS.Style
import HandS.SetFor
import HandS.Zip0
import HandS.Iter
import HandS.More
import HandS.Dict
import HandS.ForDict
import HandS.MakeKwOnly
import HandS.WideBits
import HandS.Comp
import HandS.SortOrd
import HandS.TupSets
import PySem.Challenge.RW_sevenninths_k55_whole_one_curve
set_option Elab.async false
set_option linter.all false
set_option maxRecDepth 100000
set_option maxHeartbeats 0
namespace Pm
open PySem PySem.Spec L2 PyProof.Rows

/-! ### plain values, cells, outcomes -/
inductive PV where
  | non | bl (b : Bool) | int (i : Int) | str (s : Str) | ty (n : String) | cls (C : Nat) | exn
  | tup (xs : List PV) | lst (xs : List PV) | scr (xs : List PV) | ins (C : Nat) (fs : List (Str × PV)) | ref (n : Nat)
inductive PO where
  | lst (xs : List PV) | dic (t : Bool) (kvs : List (PV × PV)) | ins (C : Nat) (fs : List (Str × PV)) | dead
abbrev VH := List PO
abbrev LS := List (Option PV)
/-- an exception: its class, its attributes -/
structure PX where
  C : Nat
  fs : List (Str × PV)
inductive Res (α : Type) where
  | ok (a : α) (h : VH) | exc (e : PX) (h : VH) | bad
def Res.bind {α β : Type} : Res α → (α → VH → Res β) → Res β
  | .ok a h, k => k a h
  | .exc e h, _ => .exc e h
  | .bad, _ => .bad
@[simp] theorem Res.bind_ok {α β : Type} (a : α) (h : VH) (k : α → VH → Res β) : (Res.ok a h).bind k = k a h := (rfl)
@[simp] theorem Res.bind_exc {α β : Type} (e : PX) (h : VH) (k : α → VH → Res β) : (Res.exc e h).bind k = .exc e h := (rfl)
@[simp] theorem Res.bind_bad {α β : Type} (k : α → VH → Res β) : (Res.bad : Res α).bind k = .bad := (rfl)
/-- a statement's outcome -/
inductive SR where
  | nx (σ : LS) (h : VH) | rt (v : PV) (h : VH) | bk (σ : LS) (h : VH) | ct (σ : LS) (h : VH) | xc (e : PX) (σ : LS) (h : VH) | bad
def SR.bind : SR → (LS → VH → SR) → SR
  | .nx σ h, k => k σ h
  | r, _ => r
@[simp] theorem SR.bind_nx (σ : LS) (h : VH) (k : LS → VH → SR) : (SR.nx σ h).bind k = k σ h := (rfl)
@[simp] theorem SR.bind_rt (v : PV) (h : VH) (k : LS → VH → SR) : (SR.rt v h).bind k = .rt v h := (rfl)
@[simp] theorem SR.bind_bk (σ : LS) (h : VH) (k : LS → VH → SR) : (SR.bk σ h).bind k = .bk σ h := (rfl)
@[simp] theorem SR.bind_ct (σ : LS) (h : VH) (k : LS → VH → SR) : (SR.ct σ h).bind k = .ct σ h := (rfl)
@[simp] theorem SR.bind_xc (e : PX) (σ : LS) (h : VH) (k : LS → VH → SR) : (SR.xc e σ h).bind k = .xc e σ h := (rfl)
@[simp] theorem SR.bind_bad (k : LS → VH → SR) : SR.bad.bind k = .bad := (rfl)
/-- an expression within a statement: what it gives goes on, what it raises leaves at these slots -/
def Res.then {α : Type} (σ : LS) : Res α → (α → VH → SR) → SR
  | .ok a h, k => k a h
  | .exc e h, _ => .xc e σ h
  | .bad, _ => .bad
@[simp] theorem Res.then_ok {α : Type} (σ : LS) (a : α) (h : VH) (k : α → VH → SR) : (Res.ok a h).then σ k = k a h := (rfl)
@[simp] theorem Res.then_exc {α : Type} (σ : LS) (e : PX) (h : VH) (k : α → VH → SR) : (Res.exc e h).then σ k = .xc e σ h := (rfl)
@[simp] theorem Res.then_bad {α : Type} (σ : LS) (k : α → VH → SR) : (Res.bad : Res α).then σ k = .bad := (rfl)

/-! ### how plain values lie in the abstract heap -/
structure Gh where
  Hf : Hp
  ρ : Nat → Addr
  pr : Addr → Option HO
/-- the classes by number; in an except suite: where the exception lies, where its dict, what it is -/
structure Ck where
  cls : Nat → Addr
  ex : Option (Addr × Addr × PX)
instance : CoeFun Ck (fun _ => Nat → Addr) := ⟨Ck.cls⟩
/-- the written part, the classes by number -/
structure Kc where
  K : PySem.W.Frag
  ck : Ck
abbrev Kc.cls (K : Kc) : Nat → Addr := K.ck.cls
abbrev Kc.ex (K : Kc) : Option (Addr × Addr × PX) := K.ck.ex
mutual
def Rep (K : Kc) (g : Gh) (n : Nat) : PV → V → Prop
  | .non, u => u = .non
  | .bl b, u => u = .bl b
  | .int i, u => u = .int i
  | .str s, u => u = .str s
  | .ty t, u => u = .ty t
  | .cls C, u => u = .ref (K.cls C)
  | .exn, u => ∃ a dd e, K.ex = some (a, dd, e) ∧ u = .ref a
  | .tup xs, u => ∃ a us, u = .ref a ∧ g.Hf a = some (.tup us) ∧ Reps K g n xs us
  | .lst xs, u => ∃ a us, u = .ref a ∧ g.Hf a = some (.lst us) ∧ Reps K g n xs us
  | .scr xs, u => ∃ a us, u = .ref a ∧ SqL K.K g.Hf a us ∧ Reps K g n xs us
  | .ins C fs, u => ∃ a dx gs, u = .ref a ∧ g.Hf a = some (.ins (K.cls C) dx gs) ∧ RepF K g n fs gs
  | .ref i, u => i < n ∧ u = .ref (g.ρ i)
def Reps (K : Kc) (g : Gh) (n : Nat) : List PV → List V → Prop
  | [], us => us = []
  | x :: xs, us => ∃ u r, us = u :: r ∧ Rep K g n x u ∧ Reps K g n xs r
def RepF (K : Kc) (g : Gh) (n : Nat) : List (Str × PV) → List (Str × V) → Prop
  | [], us => us = []
  | (f, x) :: xs, us => ∃ u r, us = (f, u) :: r ∧ Rep K g n x u ∧ RepF K g n xs r
end
/-- all that values lean on is kept -/
structure Gh.le0 (g : Gh) (n : Nat) (g' : Gh) : Prop where
  same : Same g.Hf g'.Hf
  rho : ∀ i, i < n → g'.ρ i = g.ρ i
structure Gh.le (g : Gh) (n : Nat) (g' : Gh) : Prop where
  same : Same g.Hf g'.Hf
  rho : ∀ i, i < n → g'.ρ i = g.ρ i
  pr : g'.pr = g.pr
theorem Gh.le.to0 {g g' : Gh} {n : Nat} (l : g.le n g') : g.le0 n g' := ⟨l.same, l.rho⟩
theorem Gh.le0.trans {g g1 g2 : Gh} {n n1 : Nat} (a : g.le0 n g1) (b : g1.le0 n1 g2) (h : n ≤ n1) : g.le0 n g2 :=
  ⟨a.same.trans b.same, fun i hi => (b.rho i (Nat.lt_of_lt_of_le hi h)).trans (a.rho i hi)⟩
theorem Gh.le.refl (g : Gh) (n : Nat) : g.le n g := ⟨Same.refl _, fun _ _ => rfl, rfl⟩
theorem Gh.le.trans {g g1 g2 : Gh} {n n1 : Nat} (a : g.le n g1) (b : g1.le n1 g2) (h : n ≤ n1) : g.le n g2 :=
  ⟨a.same.trans b.same, fun i hi => (b.rho i (Nat.lt_of_lt_of_le hi h)).trans (a.rho i hi), b.pr.trans a.pr⟩
theorem Same.sqT {K : PySem.W.Frag} {H H' : Hp} {a : Addr} {xs : List V} (e : Same H H') (h : SqT K H a xs) : SqT K H' a xs := by
  rcases h with (h | ⟨o, h⟩) | h
  · exact .inl (.inl (e _ _ h))
  · exact .inl (.inr ⟨o, e _ _ h⟩)
  · exact .inr h
section
variable {K : Kc} {g g' : Gh} {n n' : Nat}
mutual
theorem Rep.mono0 (l : g.le0 n g') (hn : n ≤ n') : ∀ {x : PV} {u : V}, Rep K g n x u → Rep K g' n' x u
  | .non, _, h => by simpa only [Rep] using h
  | .bl _, _, h => by simpa only [Rep] using h
  | .int _, _, h => by simpa only [Rep] using h
  | .str _, _, h => by simpa only [Rep] using h
  | .ty _, _, h => by simpa only [Rep] using h
  | .cls _, _, h => by simpa only [Rep] using h
  | .exn, _, h => by simpa only [Rep] using h
  | .tup xs, _, h => by
    simp only [Rep] at h ⊢
    obtain ⟨a, us, e, s, r⟩ := h
    exact ⟨a, us, e, l.same _ _ s, Reps.mono0 l hn r⟩
  | .lst xs, _, h => by
    simp only [Rep] at h ⊢
    obtain ⟨a, us, e, s, r⟩ := h
    exact ⟨a, us, e, l.same _ _ s, Reps.mono0 l hn r⟩
  | .scr xs, _, h => by
    simp only [Rep] at h ⊢
    obtain ⟨a, us, e, s, r⟩ := h
    exact ⟨a, us, e, l.same.seq s, Reps.mono0 l hn r⟩
  | .ins C fs, _, h => by
    simp only [Rep] at h ⊢
    obtain ⟨a, dx, gs, e, s, r⟩ := h
    exact ⟨a, dx, gs, e, l.same _ _ s, RepF.mono0 l hn r⟩
  | .ref i, _, h => by
    simp only [Rep] at h ⊢
    exact ⟨Nat.lt_of_lt_of_le h.1 hn, by rw [l.rho i h.1]; exact h.2⟩
theorem Reps.mono0 (l : g.le0 n g') (hn : n ≤ n') : ∀ {xs : List PV} {us : List V}, Reps K g n xs us → Reps K g' n' xs us
  | [], _, h => by simpa only [Reps] using h
  | x :: xs, _, h => by
    simp only [Reps] at h ⊢
    obtain ⟨u, r, e, a, b⟩ := h
    exact ⟨u, r, e, Rep.mono0 l hn a, Reps.mono0 l hn b⟩
theorem RepF.mono0 (l : g.le0 n g') (hn : n ≤ n') : ∀ {fs : List (Str × PV)} {us : List (Str × V)}, RepF K g n fs us → RepF K g' n' fs us
  | [], _, h => by simpa only [RepF] using h
  | (f, x) :: xs, _, h => by
    simp only [RepF] at h ⊢
    obtain ⟨u, r, e, a, b⟩ := h
    exact ⟨u, r, e, Rep.mono0 l hn a, RepF.mono0 l hn b⟩
end
theorem Reps.length : ∀ {xs : List PV} {us : List V}, Reps K g n xs us → us.length = xs.length
  | [], _, h => by simp only [Reps] at h; subst h; rfl
  | x :: xs, _, h => by
    simp only [Reps] at h
    obtain ⟨u, r, rfl, _, b⟩ := h
    rw [List.length_cons, List.length_cons, Reps.length b]
theorem Reps.get : ∀ {xs : List PV} {us : List V} {i : Nat} {x : PV}, Reps K g n xs us → xs[i]? = some x → ∃ u, us[i]? = some u ∧ Rep K g n x u
  | [], _, _, _, _, e => by simp at e
  | y :: ys, _, 0, x, h, e => by
    simp only [Reps] at h
    obtain ⟨u, r, rfl, a, _⟩ := h
    obtain rfl : y = x := by simpa using e
    exact ⟨u, rfl, a⟩
  | y :: ys, _, i + 1, x, h, e => by
    simp only [Reps] at h
    obtain ⟨u, r, rfl, _, b⟩ := h
    obtain ⟨u', e', h'⟩ := Reps.get (i := i) b (by simpa using e)
    exact ⟨u', by simpa using e', h'⟩
theorem Reps.get' : ∀ {xs : List PV} {us : List V} {i : Nat} {u : V}, Reps K g n xs us → us[i]? = some u → ∃ x, xs[i]? = some x ∧ Rep K g n x u
  | [], _, _, _, h, e => by simp only [Reps] at h; subst h; simp at e
  | y :: ys, _, 0, u, h, e => by
    simp only [Reps] at h
    obtain ⟨u', r, rfl, a, _⟩ := h
    obtain rfl : u' = u := by simpa using e
    exact ⟨y, rfl, a⟩
  | y :: ys, _, i + 1, u, h, e => by
    simp only [Reps] at h
    obtain ⟨u', r, rfl, _, b⟩ := h
    obtain ⟨x, e', h'⟩ := Reps.get' (i := i) b (by simpa using e)
    exact ⟨x, by simpa using e', h'⟩
theorem Reps.append : ∀ {xs ys : List PV} {us vs : List V}, Reps K g n xs us → Reps K g n ys vs → Reps K g n (xs ++ ys) (us ++ vs)
  | [], _, _, _, h, h' => by simp only [Reps] at h; subst h; simpa using h'
  | x :: xs, _, _, _, h, h' => by
    simp only [Reps] at h
    obtain ⟨u, r, rfl, a, b⟩ := h
    simp only [List.cons_append, Reps]
    exact ⟨u, _, rfl, a, Reps.append b h'⟩
theorem Reps.nil : Reps K g n [] [] := by simp only [Reps]
theorem Reps.cons {x : PV} {xs : List PV} {u : V} {us : List V} (a : Rep K g n x u) (b : Reps K g n xs us) : Reps K g n (x :: xs) (u :: us) := by
  simp only [Reps]; exact ⟨u, us, rfl, a, b⟩
theorem Reps.take : ∀ (k : Nat) {xs : List PV} {us : List V}, Reps K g n xs us → Reps K g n (xs.take k) (us.take k)
  | 0, _, _, _ => by simp only [List.take_zero]; exact Reps.nil
  | _ + 1, [], _, h => by simp only [Reps] at h; subst h; simp only [List.take_nil]; exact Reps.nil
  | k + 1, x :: xs, _, h => by
    simp only [Reps] at h
    obtain ⟨u, r, rfl, a, b⟩ := h
    simp only [List.take_succ_cons]
    exact Reps.cons a (Reps.take k b)
theorem Reps.drop : ∀ (k : Nat) {xs : List PV} {us : List V}, Reps K g n xs us → Reps K g n (xs.drop k) (us.drop k)
  | 0, _, _, h => h
  | _ + 1, [], _, h => by simp only [Reps] at h; subst h; simp only [List.drop_nil]; exact Reps.nil
  | k + 1, x :: xs, _, h => by
    simp only [Reps] at h
    obtain ⟨u, r, rfl, a, b⟩ := h
    simpa only [List.drop_succ_cons] using Reps.drop k b
theorem Reps.set {x : PV} {u : V} (a : Rep K g n x u) : ∀ (i : Nat) {xs : List PV} {us : List V}, Reps K g n xs us → Reps K g n (xs.set i x) (us.set i u)
  | _, [], _, h => by simp only [Reps] at h; subst h; simp only [List.set_nil]; exact Reps.nil
  | 0, y :: ys, _, h => by
    simp only [Reps] at h
    obtain ⟨u', r, rfl, a', b⟩ := h
    simp only [List.set_cons_zero]
    exact Reps.cons a b
  | i + 1, y :: ys, _, h => by
    simp only [Reps] at h
    obtain ⟨u', r, rfl, a', b⟩ := h
    simp only [List.set_cons_succ]
    exact Reps.cons a' (Reps.set a i b)
theorem Reps.reverse : ∀ {xs : List PV} {us : List V}, Reps K g n xs us → Reps K g n xs.reverse us.reverse
  | [], _, h => by simp only [Reps] at h; subst h; exact Reps.nil
  | x :: xs, _, h => by
    simp only [Reps] at h
    obtain ⟨u, r, rfl, a, b⟩ := h
    simp only [List.reverse_cons]
    exact Reps.append (Reps.reverse b) (Reps.cons a Reps.nil)
theorem Reps.ints : ∀ (ns : List Int), Reps K g n (ns.map PV.int) (ns.map V.int)
  | [] => Reps.nil
  | i :: ns => Reps.cons (by simp only [Rep]) (Reps.ints ns)
theorem Reps.ints_eq : ∀ {ns : List Int} {us : List V}, Reps K g n (ns.map PV.int) us → us = ns.map V.int
  | [], _, h => by simpa only [List.map_nil, Reps] using h
  | i :: ns, _, h => by
    simp only [List.map_cons, Reps] at h
    obtain ⟨u, r, rfl, a, b⟩ := h
    simp only [Rep] at a
    rw [a, Reps.ints_eq b]; rfl
theorem Reps.bls_eq : ∀ {ns : List Bool} {us : List V}, Reps K g n (ns.map PV.bl) us → us = ns.map V.bl
  | [], _, h => by simpa only [List.map_nil, Reps] using h
  | i :: ns, _, h => by
    simp only [List.map_cons, Reps] at h
    obtain ⟨u, r, rfl, a, b⟩ := h
    simp only [Rep] at a
    rw [a, Reps.bls_eq b]; rfl
theorem Reps.strs_eq : ∀ {ns : List Str} {us : List V}, Reps K g n (ns.map PV.str) us → us = ns.map V.str
  | [], _, h => by simpa only [List.map_nil, Reps] using h
  | i :: ns, _, h => by
    simp only [List.map_cons, Reps] at h
    obtain ⟨u, r, rfl, a, b⟩ := h
    simp only [Rep] at a
    rw [a, Reps.strs_eq b]; rfl
theorem RepF.lookup {f : Str} : ∀ {fs : List (Str × PV)} {gs : List (Str × V)}, RepF K g n fs gs →
    (∀ x, fs.lookup f = some x → ∃ u, gs.lookup f = some u ∧ Rep K g n x u) ∧ (fs.lookup f = none → gs.lookup f = none)
  | [], _, h => by simp only [RepF] at h; subst h; exact ⟨(fun _ z => nomatch z), fun _ => rfl⟩
  | (k, x) :: fs, _, h => by
    simp only [RepF] at h
    obtain ⟨u, r, rfl, a, b⟩ := h
    have ih := RepF.lookup (f := f) b
    cases e : f == k with
    | true => simp only [List.lookup_cons, e]; exact ⟨fun y z => ⟨u, rfl, by cases z; exact a⟩, fun z => nomatch z⟩
    | false => simp only [List.lookup_cons, e]; exact ih
theorem RepF.length : ∀ {fs : List (Str × PV)} {gs : List (Str × V)}, RepF K g n fs gs → gs.length = fs.length
  | [], _, h => by simp only [RepF] at h; subst h; rfl
  | (f, x) :: xs, _, h => by
    simp only [RepF] at h
    obtain ⟨u, r, rfl, _, b⟩ := h
    rw [List.length_cons, List.length_cons, RepF.length b]
theorem RepF.nil : RepF K g n [] [] := by simp only [RepF]
theorem RepF.cons {f : Str} {x : PV} {xs : List (Str × PV)} {u : V} {us : List (Str × V)} (a : Rep K g n x u) (b : RepF K g n xs us) : RepF K g n ((f, x) :: xs) ((f, u) :: us) := by
  simp only [RepF]; exact ⟨u, us, rfl, a, b⟩
end

/-! ### dict keys -/
def pK : PV → Option Key
  | .int i => some (.inl i)
  | .str s => some (.inr s)
  | _ => none
def pKs : List PV → Option (List Key)
  | [] => some []
  | x :: xs => match pK x, pKs xs with
    | some k, some ks => some (k :: ks)
    | _, _ => none
def pT : PV → Option (List Key)
  | .tup xs => pKs xs
  | _ => none
/-- a dict's pairs: keys by value -/
def RepD {κ : Type} (K : Kc) (g : Gh) (n : Nat) (key : PV → Option κ) : List (PV × PV) → List (κ × V) → Prop
  | [], us => us = []
  | (k, x) :: xs, us => ∃ k' u r, us = (k', u) :: r ∧ key k = some k' ∧ Rep K g n x u ∧ RepD K g n key xs r
theorem RepD.mono0 {κ : Type} {K : Kc} {g g' : Gh} {n n' : Nat} {key : PV → Option κ} (l : g.le0 n g') (hn : n ≤ n') : ∀ {xs : List (PV × PV)} {us : List (κ × V)}, RepD K g n key xs us → RepD K g' n' key xs us
  | [], _, h => by simpa only [RepD] using h
  | (k, x) :: xs, _, h => by
    simp only [RepD] at h ⊢
    obtain ⟨k', u, r, e, ek, a, b⟩ := h
    exact ⟨k', u, r, e, ek, a.mono0 l hn, RepD.mono0 l hn b⟩
def RepO (K : Kc) (g : Gh) (n : Nat) : PO → HO → Prop
  | .lst xs, o => ∃ us, o = .lst us ∧ Reps K g n xs us
  | .dic false kvs, o => ∃ us, o = .dK us ∧ RepD K g n pK kvs us
  | .dic true kvs, o => ∃ us, o = .dT us ∧ RepD K g n pT kvs us
  | .ins C fs, o => ∃ dx gs, o = .ins (K.cls C) dx gs ∧ RepF K g n fs gs
  | .dead, _ => True
theorem RepO.mono0 {K : Kc} {g g' : Gh} {n n' : Nat} (l : g.le0 n g') (hn : n ≤ n') {o : PO} {u : HO} (h : RepO K g n o u) : RepO K g' n' o u := by
  cases o with
  | lst xs => obtain ⟨us, e, r⟩ := h; exact ⟨us, e, r.mono0 l hn⟩
  | dic t kvs =>
    cases t with
    | false => obtain ⟨us, e, r⟩ := h; exact ⟨us, e, r.mono0 l hn⟩
    | true => obtain ⟨us, e, r⟩ := h; exact ⟨us, e, r.mono0 l hn⟩
  | ins C fs => obtain ⟨dx, gs, e, r⟩ := h; exact ⟨dx, gs, e, r.mono0 l hn⟩
  | dead => trivial
/-- the cells and the frozen things, in the abstract heap -/
structure RelH (K : Kc) (g : Gh) (h : VH) (H : Hp) : Prop where
  same : Same g.Hf H
  cell : ∀ i o, h[i]? = some o → o ≠ .dead → ∃ u, H (g.ρ i) = some u ∧ RepO K g h.length o u
  sep : ∀ i o, h[i]? = some o → o ≠ .dead → g.Hf (g.ρ i) = none
  inj : ∀ i j o p, h[i]? = some o → o ≠ .dead → h[j]? = some p → p ≠ .dead → g.ρ i = g.ρ j → i = j
  fr : ∀ a o, g.pr a = some o → H a = some o ∧ g.Hf a = none ∧ ∀ i p, h[i]? = some p → p ≠ .dead → g.ρ i ≠ a
  ex : ∀ a dd e, K.ex = some (a, dd, e) → ∃ gs, g.Hf dd = some (.xd gs) ∧ RepF K g h.length e.fs gs
structure RelS (K : Kc) (g : Gh) (n : Nat) (σ : LS) (τ : L2.St) : Prop where
  len : τ.length = σ.length
  get : ∀ (i : Nat) (v : PV), σ[i]? = some (some v) → ∃ u, τ[i]? = some (some u) ∧ Rep K g n v u
theorem RelS.mono0 {K : Kc} {g g' : Gh} {n n' : Nat} {σ : LS} {τ : L2.St} (h : RelS K g n σ τ) (l : g.le0 n g') (hn : n ≤ n') : RelS K g' n' σ τ :=
  ⟨h.len, fun i v e => let ⟨u, e', r⟩ := h.get i v e; ⟨u, e', r.mono0 l hn⟩⟩
section
variable {K : Kc} {g g' : Gh} {n n' : Nat}
theorem Rep.mono (l : g.le n g') (hn : n ≤ n') {x : PV} {u : V} (h : Rep K g n x u) : Rep K g' n' x u := h.mono0 l.to0 hn
theorem Reps.mono (l : g.le n g') (hn : n ≤ n') {x : List PV} {u : List V} (h : Reps K g n x u) : Reps K g' n' x u := h.mono0 l.to0 hn
theorem RepF.mono (l : g.le n g') (hn : n ≤ n') {x : List (Str × PV)} {u : List (Str × V)} (h : RepF K g n x u) : RepF K g' n' x u := h.mono0 l.to0 hn
theorem RepD.mono {κ : Type} {key : PV → Option κ} (l : g.le n g') (hn : n ≤ n') {x : List (PV × PV)} {u : List (κ × V)} (h : RepD K g n key x u) : RepD K g' n' key x u := h.mono0 l.to0 hn
theorem RepO.mono (l : g.le n g') (hn : n ≤ n') {o : PO} {u : HO} (h : RepO K g n o u) : RepO K g' n' o u := h.mono0 l.to0 hn
theorem RelS.mono {σ : LS} {τ : L2.St} (h : RelS K g n σ τ) (l : g.le n g') (hn : n ≤ n') : RelS K g' n' σ τ := h.mono0 l.to0 hn
end
theorem RelS.set {K : Kc} {g : Gh} {n : Nat} {σ : LS} {τ : L2.St} (h : RelS K g n σ τ) (i : Nat) {v : PV} {u : V} (r : Rep K g n v u) : RelS K g n (σ.set i (some v)) (τ.set i (some u)) := by
  refine ⟨by simp [h.len], fun j w e => ?_⟩
  by_cases hj : i = j
  · subst hj
    by_cases hl : i < σ.length
    · rw [List.getElem?_set_self hl] at e
      cases e
      exact ⟨u, by rw [List.getElem?_set_self (by rw [h.len]; exact hl)], r⟩
    · rw [List.getElem?_eq_none (by simpa using hl)] at e; cases e
  · rw [List.getElem?_set_ne hj] at e
    rw [List.getElem?_set_ne hj]
    exact h.get j w e
theorem RelS.forget {K : Kc} {g : Gh} {n : Nat} {σ : LS} {τ : L2.St} (h : RelS K g n σ τ) (i : Nat) : RelS K g n (σ.set i none) (τ.set i none) := by
  refine ⟨by simp [h.len], fun j w e => ?_⟩
  by_cases hj : i = j
  · subst hj
    by_cases hl : i < σ.length
    · rw [List.getElem?_set_self hl] at e; cases e
    · rw [List.getElem?_eq_none (by simpa using hl)] at e; cases e
  · rw [List.getElem?_set_ne hj] at e
    rw [List.getElem?_set_ne hj]
    exact h.get j w e

/-! ### what an outcome owes -/
/-- an exception as it lies behind -/
def RepX (K : Kc) (g : Gh) (n : Nat) (e : PX) (cls : Value) (d : Option Addr) (H : Hp) : Prop :=
  cls = .ref (K.cls e.C) ∧ ∃ (dd : Addr) (gs : List (Str × V)), d = some dd ∧ g.Hf dd = some (.xd gs) ∧ RepF K g n e.fs gs
def Post {α β : Type} (K : Kc) (R : Gh → Nat → α → β → Prop) (g : Gh) (n : Nat) (Q : β → Hp → Prop) (E : XK) : Res α → Prop
  | .ok a h' => ∀ g' u H', g.le n g' → n ≤ h'.length → RelH K g' h' H' → R g' h'.length a u → Q u H'
  | .exc e h' => ∀ g' cls d H', g.le n g' → n ≤ h'.length → RelH K g' h' H' → RepX K g' h'.length e cls d H' → E cls d H'
  | .bad => False
section
variable {α β γ δ : Type} {K : Kc} {R : Gh → Nat → α → β → Prop} {R' : Gh → Nat → γ → δ → Prop} {g g1 : Gh} {n n1 : Nat} {Q : β → Hp → Prop} {Q' : δ → Hp → Prop} {E : XK}
theorem Post.up {r : Res α} (h : Post K R g n Q E r) (l : g.le n g1) (hn : n ≤ n1) : Post K R g1 n1 Q E r := by
  cases r with
  | ok a h' => exact fun g' u H' l' hn' rh ra => h g' u H' (l.trans l' hn) (Nat.le_trans hn hn') rh ra
  | exc e h' => exact fun g' c d H' l' hn' rh ra => h g' c d H' (l.trans l' hn) (Nat.le_trans hn hn') rh ra
  | bad => exact h
theorem Post.imp {Q2 : β → Hp → Prop} {E2 : XK} {r : Res α} (h : Post K R g n Q E r) (hq : ∀ u H, Q u H → Q2 u H) (he : ∀ c d H, E c d H → E2 c d H) : Post K R g n Q2 E2 r := by
  cases r with
  | ok a h' => exact fun g' u H' l' hn' rh ra => hq _ _ (h g' u H' l' hn' rh ra)
  | exc e h' => exact fun g' c d H' l' hn' rh ra => he _ _ _ (h g' c d H' l' hn' rh ra)
  | bad => exact h
/-- behind the first part -/
structure Mid (K : Kc) (R : Gh → Nat → α → β → Prop) (g : Gh) (n : Nat) (a : α) (h1 : VH) (g1 : Gh) (u : β) (H1 : Hp) : Prop where
  le : g.le n g1
  len : n ≤ h1.length
  rel : RelH K g1 h1 H1
  rep : R g1 h1.length a u
theorem Post.bind {r : Res α} {k : α → VH → Res γ} (h : Post K R' g n Q' E (r.bind k)) :
    Post K R g n (fun u H1 => ∃ g1 a h1, Mid K R g n a h1 g1 u H1 ∧ Post K R' g1 h1.length Q' E (k a h1)) E r := by
  cases r with
  | ok a h' => exact fun g' u H' l' hn' rh ra => ⟨g', a, h', ⟨l', hn', rh, ra⟩, Post.up h l' hn'⟩
  | exc e h' => exact h
  | bad => exact h
end
end Pm
namespace Pm
open PySem PySem.Spec L2 PyProof.Rows

/-! ### judgements: a piece of syntax and what it computes, in plain terms -/
abbrev EM := LS → VH → Res PV
abbrev TM := LS → VH → Res Bool
abbrev AM := LS → VH → Res (List PV)
abbrev SM := LS → VH → SR
abbrev kx (c : Ck) (X : Cx) : Kc := ⟨X.K, c⟩
abbrev RepB : Gh → Nat → Bool → Bool → Prop := fun _ _ a b => b = a
/-- the wish, at these slots -/
abbrev at_ (W : WX) (τ : L2.St) : XK := fun c d H => W c d τ H

def SE (c : Ck) (X : Cx) (W : WX) (e : Expr) (m : EM) : Prop := ∃ t, PE X e t ∧ ∀ g σ h τ H Q, RelS (kx c X) g h.length σ τ → RelH (kx c X) g h H → Post (kx c X) (Rep (kx c X)) g h.length Q (at_ W τ) (m σ h) → t τ H Q
def ST (c : Ck) (X : Cx) (W : WX) (e : Expr) (m : TM) : Prop := ∃ t, PT X e t ∧ ∀ g σ h τ H Q, RelS (kx c X) g h.length σ τ → RelH (kx c X) g h H → Post (kx c X) RepB g h.length Q (at_ W τ) (m σ h) → t τ H Q
def SW (c : Ck) (X : Cx) (W : WX) (e : Expr) (m : TM) : Prop := ∃ t, PW X e t ∧ ∀ g σ h τ H Q, RelS (kx c X) g h.length σ τ → RelH (kx c X) g h H → Post (kx c X) RepB g h.length Q (at_ W τ) (m σ h) → t τ H Q
def SA (c : Ck) (X : Cx) (W : WX) (es : List Expr) (m : AM) : Prop := (∀ σ h xs h', m σ h = .ok xs h' → xs.length = es.length) ∧ ∃ t, PA X es t ∧ ∀ g σ h τ H Q, RelS (kx c X) g h.length σ τ → RelH (kx c X) g h H → Post (kx c X) (Reps (kx c X)) g h.length Q (at_ W τ) (m σ h) → t τ H Q
/-- what a statement's outcome owes -/
def PostS (K : Kc) (g : Gh) (n : Nat) (D : Ends) (W : WX) : SR → Prop
  | .nx σ h' => ∀ g' τ H', g.le n g' → n ≤ h'.length → RelH K g' h' H' → RelS K g' h'.length σ τ → D.nx τ H'
  | .bk σ h' => ∀ g' τ H', g.le n g' → n ≤ h'.length → RelH K g' h' H' → RelS K g' h'.length σ τ → D.bk τ H'
  | .ct σ h' => ∀ g' τ H', g.le n g' → n ≤ h'.length → RelH K g' h' H' → RelS K g' h'.length σ τ → D.ct τ H'
  | .rt v h' => ∀ g' u H', g.le n g' → n ≤ h'.length → RelH K g' h' H' → Rep K g' h'.length v u → D.rt u H'
  | .xc e σ h' => ∀ g' cls d τ H', g.le n g' → n ≤ h'.length → RelH K g' h' H' → RelS K g' h'.length σ τ → RepX K g' h'.length e cls d H' → W cls d τ H'
  | .bad => False
def S1 (c : Ck) (X : Cx) (W : WX) (s : Stmt) (m : SM) : Prop := ∃ t, PS X s t ∧ ∀ g σ h τ H D, RelS (kx c X) g h.length σ τ → RelH (kx c X) g h H → PostS (kx c X) g h.length D W (m σ h) → t D τ H
def SS (c : Ck) (X : Cx) (W : WX) (s : List Stmt) (m : SM) : Prop := ∃ t, PSs X s t ∧ ∀ g σ h τ H D, RelS (kx c X) g h.length σ τ → RelH (kx c X) g h H → PostS (kx c X) g h.length D W (m σ h) → t D τ H

section
variable {K : Kc} {g g1 : Gh} {n n1 : Nat} {D : Ends} {W : WX}
theorem PostS.up {r : SR} (h : PostS K g n D W r) (l : g.le n g1) (hn : n ≤ n1) : PostS K g1 n1 D W r := by
  cases r with
  | nx σ h' => exact fun g' τ H' l' hn' => h g' τ H' (l.trans l' hn) (Nat.le_trans hn hn')
  | bk σ h' => exact fun g' τ H' l' hn' => h g' τ H' (l.trans l' hn) (Nat.le_trans hn hn')
  | ct σ h' => exact fun g' τ H' l' hn' => h g' τ H' (l.trans l' hn) (Nat.le_trans hn hn')
  | rt v h' => exact fun g' τ H' l' hn' => h g' τ H' (l.trans l' hn) (Nat.le_trans hn hn')
  | xc e σ h' => exact fun g' c d τ H' l' hn' => h g' c d τ H' (l.trans l' hn) (Nat.le_trans hn hn')
  | bad => exact h
/-- the exceptions of a part of a statement leave at its slots -/
theorem PostS.then {α β : Type} {R : Gh → Nat → α → β → Prop} {r : Res α} {k : α → VH → SR} {σ : LS} {τ : L2.St} (rs : RelS K g n σ τ) (h : PostS K g n D W (r.then σ k)) :
    Post K R g n (fun u H1 => ∃ g1 a h1, Mid K R g n a h1 g1 u H1 ∧ PostS K g1 h1.length D W (k a h1)) (at_ W τ) r := by
  cases r with
  | ok a h' => exact fun g' u H' l' hn' rh ra => ⟨g', a, h', ⟨l', hn', rh, ra⟩, PostS.up h l' hn'⟩
  | exc e h' => exact fun g' c d H' l' hn' rh rx => h g' c d τ H' l' hn' rh (rs.mono l' hn') rx
  | bad => exact h
end

/-! ### operators by values -/
section
variable {c : Ck} {X : Cx} {W : WX}
def OpS (c : Ck) (X : Cx) (r : R2) (f : PV → PV → VH → Res PV) : Prop := ∀ g h H x y u v Q E, Rep (kx c X) g h.length x u → Rep (kx c X) g h.length y v → RelH (kx c X) g h H → Post (kx c X) (Rep (kx c X)) g h.length Q E (f x y h) → r u v H Q
def UnS (c : Ck) (X : Cx) (r : V → Hp → VK → Prop) (f : PV → VH → Res PV) : Prop := ∀ g h H x u Q E, Rep (kx c X) g h.length x u → RelH (kx c X) g h H → Post (kx c X) (Rep (kx c X)) g h.length Q E (f x h) → r u H Q
def CallS (c : Ck) (X : Cx) (r : List V → Hp → VK → Prop) (f : List PV → VH → Res PV) : Prop := ∀ g h H xs us Q E, Reps (kx c X) g h.length xs us → RelH (kx c X) g h H → Post (kx c X) (Rep (kx c X)) g h.length Q E (f xs h) → r us H Q
def MtS' (c : Ck) (X : Cx) (T : String) (r : V → List V → Hp → VK → Prop) (f : PV → List PV → VH → Res PV) : Prop := ∀ g h H x xs u us Q E, Rep (kx c X) g h.length x u → Reps (kx c X) g h.length xs us → RelH (kx c X) g h H → Post (kx c X) (Rep (kx c X)) g h.length Q E (f x xs h) → r u us H Q

def eBin (f : PV → PV → VH → Res PV) (ma mb : EM) : EM := fun σ h => (ma σ h).bind fun x h1 => (mb σ h1).bind fun y h2 => f x y h2
def eUn (f : PV → VH → Res PV) (ma : EM) : EM := fun σ h => (ma σ h).bind fun x h1 => f x h1
def aNil : AM := fun _ h => .ok [] h
def aCons (m : EM) (ms : AM) : AM := fun σ h => (m σ h).bind fun x h1 => (ms σ h1).bind fun xs h2 => .ok (x :: xs) h2
def eCall (f : List PV → VH → Res PV) (ms : AM) : EM := fun σ h => (ms σ h).bind fun xs h1 => f xs h1

theorem two_run {ta tb : TE} {ma mb : EM} {f : PV → PV → VH → Res PV} {R : V → V → Hp → Prop}
    (sa : ∀ g σ h τ H Q, RelS (kx c X) g h.length σ τ → RelH (kx c X) g h H → Post (kx c X) (Rep (kx c X)) g h.length Q (at_ W τ) (ma σ h) → ta τ H Q)
    (sb : ∀ g σ h τ H Q, RelS (kx c X) g h.length σ τ → RelH (kx c X) g h H → Post (kx c X) (Rep (kx c X)) g h.length Q (at_ W τ) (mb σ h) → tb τ H Q)
    {g : Gh} {σ : LS} {h : VH} {τ : L2.St} {H : Hp} {Q : VK} (rs : RelS (kx c X) g h.length σ τ) (rh : RelH (kx c X) g h H) (p : Post (kx c X) (Rep (kx c X)) g h.length Q (at_ W τ) (eBin f ma mb σ h))
    (k : ∀ g h H x y u v, Rep (kx c X) g h.length x u → Rep (kx c X) g h.length y v → RelH (kx c X) g h H → Post (kx c X) (Rep (kx c X)) g h.length Q (at_ W τ) (f x y h) → R u v H) : ta τ H fun x H1 => tb τ H1 fun y H2 => R x y H2 := by
  refine sa g σ h τ H _ rs rh ((Post.bind p).imp (fun u H1 ⟨g1, x, h1, m1, p1⟩ => ?_) fun _ _ _ z => z)
  refine sb g1 σ h1 τ H1 _ (rs.mono m1.le m1.len) m1.rel ((Post.bind p1).imp (fun v H2 ⟨g2, y, h2, m2, p2⟩ => ?_) fun _ _ _ z => z)
  exact k g2 h2 H2 x y u v (m1.rep.mono m2.le m2.len) m2.rep m2.rel p2
theorem SE.op {op : Operator} {r : R2} {f : PV → PV → VH → Res PV} {a b : Expr} {ma mb : EM} {pos : Pos} (ho : OpR X (binaryOp op) r) (hs : OpS c X r f) (ha : SE c X W a ma) (hb : SE c X W b mb) : SE c X W (.BinOp a op b pos) (eBin f ma mb) := by
  obtain ⟨ta, pa, sa⟩ := ha
  obtain ⟨tb, pb, sb⟩ := hb
  exact ⟨_, pe_op ho pa pb, fun g σ h τ H Q rs rh p => two_run sa sb rs rh p fun g h H x y u v rx ry rh p => hs g h H x y u v Q _ rx ry rh p⟩
theorem SE.cmp {op : CmpOp} {r : R2} {f : PV → PV → VH → Res PV} {a b : Expr} {ma mb : EM} {pos : Pos} (ho : OpR X (compareOp op) r) (hs : OpS c X r f) (ha : SE c X W a ma) (hb : SE c X W b mb) (hm : behindInMarks op b = false) : SE c X W (.Compare a [op] [b] pos) (eBin f ma mb) := by
  obtain ⟨ta, pa, sa⟩ := ha
  obtain ⟨tb, pb, sb⟩ := hb
  exact ⟨_, pe_cmpR ho pa pb hm, fun g σ h τ H Q rs rh p => two_run sa sb rs rh p fun g h H x y u v rx ry rh p => hs g h H x y u v Q _ rx ry rh p⟩
theorem SE.un {op : UnaryOp} {r : V → Hp → VK → Prop} {f : PV → VH → Res PV} {a : Expr} {ma : EM} {pos : Pos} (ho : UnR X (unaryOp op) r) (hs : UnS c X r f) (ha : SE c X W a ma) : SE c X W (.UnaryOp op a pos) (eUn f ma) := by
  obtain ⟨ta, pa, sa⟩ := ha
  refine ⟨_, pe_un ho pa, fun g σ h τ H Q rs rh p => ?_⟩
  exact sa g σ h τ H _ rs rh ((Post.bind p).imp (fun u H1 ⟨g1, x, h1, m1, p1⟩ => hs g1 h1 H1 x u Q _ m1.rep m1.rel p1) fun _ _ _ z => z)

/-- a value as a truth -/
def asB : PV → VH → Res Bool
  | .bl b, h => .ok b h
  | _, _ => .bad
def tVal (m : EM) : TM := fun σ h => (m σ h).bind asB
theorem asB_run {g : Gh} {h : VH} {H : Hp} {x : PV} {u : V} {Q : Bool → Hp → Prop} {E : XK} (rx : Rep (kx c X) g h.length x u) (rh : RelH (kx c X) g h H) (p : Post (kx c X) RepB g h.length Q E (asB x h)) : ∃ k, u = .bl k ∧ Q k H := by
  cases x with
  | bl b =>
    simp only [Rep] at rx
    exact ⟨b, rx, p g b H (Gh.le.refl _ _) (Nat.le_refl _) rh rfl⟩
  | _ => exact p.elim
theorem ST.cmp {op : CmpOp} {r : R2} {f : PV → PV → VH → Res PV} {a b : Expr} {ma mb : EM} {pos : Pos} (ho : OpR X (compareOp op) r) (hs : OpS c X r f) (ha : SE c X W a ma) (hb : SE c X W b mb) (hm : behindInMarks op b = false) : ST c X W (.Compare a [op] [b] pos) (tVal (eBin f ma mb)) := by
  obtain ⟨ta, pa, sa⟩ := ha
  obtain ⟨tb, pb, sb⟩ := hb
  refine ⟨_, pt_cmpR ho pa pb hm, fun g σ h τ H Q rs rh p => ?_⟩
  refine two_run (Q := fun x H' => ∃ k, x = .bl k ∧ Q k H') sa sb rs rh ((Post.bind p).imp (fun u H1 ⟨g1, x, h1, m1, p1⟩ => asB_run m1.rep m1.rel p1) fun _ _ _ z => z) fun g h H x y u v rx ry rh p => ?_
  exact hs g h H x y u v _ _ rx ry rh p
theorem ST.val {e : Expr} {m : EM} (hs : SE c X W e m) (he : ∀ whole, isTrue e X.env whole = (do let v ← whole; standAt e.pos; holding [v] (truthy v)) := by intro _; rfl) : ST c X W e (tVal m) := by
  obtain ⟨t, pe, s⟩ := hs
  refine ⟨_, pt_val pe he, fun g σ h τ H Q rs rh p => ?_⟩
  exact s g σ h τ H _ rs rh ((Post.bind p).imp (fun u H1 ⟨g1, x, h1, m1, p1⟩ => asB_run m1.rep m1.rel p1) fun _ _ _ z => z)

/-! ### names, constants -/
def eVar (i : Nat) : EM := fun σ h => match σ[i]? with
  | some (some v) => .ok v h
  | _ => .bad
def eC (v : PV) : EM := fun _ h => .ok v h
theorem SE.var (i : Nat) {x : Str} {pos : Pos} (hN : X.N[i]? = some x := by rfl) (hv : Vis X.env.scope x := by first | exact Or.inl rfl | exact Or.inr (Or.inl rfl) | exact Or.inr (Or.inr rfl)) (hd : (x == ("__debug__" : Str)) = false := by decide)
    (hcd : (x == ("__classdict__" : Str)) = false := by decide) : SE c X W (.Name x pos) (eVar i) := by
  refine ⟨_, pe_var hN hv hd hcd, fun g σ h τ H Q rs rh p => ?_⟩
  dsimp only [eVar] at p
  split at p
  · rename_i v e
    obtain ⟨u, e', r⟩ := rs.get i v e
    exact ⟨u, e', p g u H (Gh.le.refl _ _) (Nat.le_refl _) rh r⟩
  · exact p.elim
theorem const_run {v : PV} {u : V} {g : Gh} {h : VH} {H : Hp} {Q : VK} {E : XK} (rh : RelH (kx c X) g h H) (r : Rep (kx c X) g h.length v u) (p : Post (kx c X) (Rep (kx c X)) g h.length Q E (.ok v h)) : Q u H := p g u H (Gh.le.refl _ _) (Nat.le_refl _) rh r
theorem SE.int {i : Int} {j : Nat} {pos : Pos} : SE c X W (.Constant (.int i) j pos) (eC (.int i)) := ⟨_, pe_int, fun _ _ _ _ _ _ _ rh p => const_run rh (by simp only [Rep]) p⟩
theorem SE.bl {b : Bool} {j : Nat} {pos : Pos} : SE c X W (.Constant (.bool b) j pos) (eC (.bl b)) := ⟨_, pe_bl, fun _ _ _ _ _ _ _ rh p => const_run rh (by simp only [Rep]) p⟩
theorem SE.non {j : Nat} {pos : Pos} : SE c X W (.Constant .none j pos) (eC .non) := ⟨_, pe_non, fun _ _ _ _ _ _ _ rh p => const_run rh (by simp only [Rep]) p⟩
theorem SE.str {x : Str} {j : Nat} {pos : Pos} : SE c X W (.Constant (.str x) j pos) (eC (.str x)) := ⟨_, pe_str, fun _ _ _ _ _ _ _ rh p => const_run rh (by simp only [Rep]) p⟩
/-- a name of the module -/
theorem SE.glob {x : Str} {v : V} {u : Value} {w : PV} {pos : Pos} (hg : Gl X x) (hm : X.mg x = some u) (r : RelV v u) (rw : ∀ g n, Rep (kx c X) g n w v) (hd : (x == ("__debug__" : Str)) = false := by decide) : SE c X W (.Name x pos) (eC w) :=
  ⟨_, pe_glob hg hm r hd, fun _ _ _ _ _ _ _ rh p => const_run rh (rw _ _) p⟩
/-- a built-in type as a value -/
theorem SE.bty {x : Str} {T : String} {pos : Pos} (hg : Gl X x) (hm : X.mg x = none) (hv : bootBuiltins x = some (.type T)) (hn : x ≠ "__name__" := by decide) (hd : (x == ("__debug__" : Str)) = false := by decide) : SE c X W (.Name x pos) (eC (.ty T)) :=
  ⟨_, pe_bltn hg hm hv (v := .ty T) rfl hn hd, fun _ _ _ _ _ _ _ rh p => const_run rh (by simp only [Rep]) p⟩

/-! ### and, or, not, if else; chains -/
def tAndM (a b : TM) : TM := fun σ h => (a σ h).bind fun c h1 => if c = true then b σ h1 else .ok false h1
def tOrM (a b : TM) : TM := fun σ h => (a σ h).bind fun c h1 => if c = true then .ok true h1 else b σ h1
def tNotM (a : TM) : TM := fun σ h => (a σ h).bind fun c h1 => .ok (!c) h1
theorem SW.st {e : Expr} {m : TM} (h : SW c X W e m) : ST c X W e m := by
  obtain ⟨t, p, s⟩ := h
  exact ⟨t, p.pt, s⟩
variable {a b : Expr} {rest : List Expr} {pos : Pos} {ta tb : TM} {ma mb : EM}
theorem SW.and1 (ha : ST c X W a ta) : SW c X W (.BoolOp .And [a] pos) ta := by
  obtain ⟨t, p, s⟩ := ha
  exact ⟨t, pw_and1 p, s⟩
theorem SW.or1 (ha : ST c X W a ta) : SW c X W (.BoolOp .Or [a] pos) ta := by
  obtain ⟨t, p, s⟩ := ha
  exact ⟨t, pw_or1 p, s⟩
theorem SW.and (ha : ST c X W a ta) (hb : SW c X W (.BoolOp .And (b :: rest) pos) tb) : SW c X W (.BoolOp .And (a :: b :: rest) pos) (tAndM ta tb) := by
  obtain ⟨t, p, s⟩ := ha
  obtain ⟨t2, p2, s2⟩ := hb
  refine ⟨_, pw_and p p2, fun g σ h τ H Q rs rh q => ?_⟩
  refine s g σ h τ H _ rs rh ((Post.bind q).imp (fun c H1 ⟨g1, c', h1, m1, q1⟩ => ?_) fun _ _ _ z => z)
  obtain rfl : c = c' := m1.rep
  cases c with
  | true => exact s2 g1 σ h1 τ H1 Q (rs.mono m1.le m1.len) m1.rel q1
  | false => exact q1 g1 false H1 (Gh.le.refl _ _) (Nat.le_refl _) m1.rel rfl
theorem SW.or (ha : ST c X W a ta) (hb : SW c X W (.BoolOp .Or (b :: rest) pos) tb) : SW c X W (.BoolOp .Or (a :: b :: rest) pos) (tOrM ta tb) := by
  obtain ⟨t, p, s⟩ := ha
  obtain ⟨t2, p2, s2⟩ := hb
  refine ⟨_, pw_or p p2, fun g σ h τ H Q rs rh q => ?_⟩
  refine s g σ h τ H _ rs rh ((Post.bind q).imp (fun c H1 ⟨g1, c', h1, m1, q1⟩ => ?_) fun _ _ _ z => z)
  obtain rfl : c = c' := m1.rep
  cases c with
  | true => exact q1 g1 true H1 (Gh.le.refl _ _) (Nat.le_refl _) m1.rel rfl
  | false => exact s2 g1 σ h1 τ H1 Q (rs.mono m1.le m1.len) m1.rel q1
theorem ST.not (ha : ST c X W a ta) : ST c X W (.UnaryOp .Not a pos) (tNotM ta) := by
  obtain ⟨t, p, s⟩ := ha
  refine ⟨_, pt_not p, fun g σ h τ H Q rs rh q => ?_⟩
  refine s g σ h τ H _ rs rh ((Post.bind q).imp (fun c H1 ⟨g1, c', h1, m1, q1⟩ => ?_) fun _ _ _ z => z)
  obtain rfl : c = c' := m1.rep
  exact q1 g1 _ H1 (Gh.le.refl _ _) (Nat.le_refl _) m1.rel rfl
/-- as values -/
def eAndM (a b : EM) : EM := fun σ h => (a σ h).bind fun x h1 => (asB x h1).bind fun c h2 => if c = true then b σ h2 else .ok (.bl false) h2
def eOrM (a b : EM) : EM := fun σ h => (a σ h).bind fun x h1 => (asB x h1).bind fun c h2 => if c = true then .ok (.bl true) h2 else b σ h2
def eNotM (a : EM) : EM := fun σ h => (a σ h).bind fun x h1 => (asB x h1).bind fun c h2 => .ok (.bl (!c)) h2
theorem SE.one {op : BoolOp} (ha : SE c X W a ma) : SE c X W (.BoolOp op [a] pos) ma := by
  obtain ⟨t, p, s⟩ := ha
  exact ⟨t, pe_one p, s⟩
theorem asB_bind {γ δ : Type} {R : Gh → Nat → γ → δ → Prop} {g : Gh} {h : VH} {H : Hp} {x : PV} {u : V} {Q : δ → Hp → Prop} {E : XK} {k : Bool → VH → Res γ} (rx : Rep (kx c X) g h.length x u) (p : Post (kx c X) R g h.length Q E ((asB x h).bind k)) :
    ∃ d, x = .bl d ∧ u = .bl d ∧ Post (kx c X) R g h.length Q E (k d h) := by
  cases x with
  | bl b =>
    simp only [Rep] at rx
    exact ⟨b, rfl, rx, p⟩
  | _ => exact p.elim
theorem SE.and (ha : SE c X W a ma) (hb : SE c X W (.BoolOp .And (b :: rest) pos) mb) : SE c X W (.BoolOp .And (a :: b :: rest) pos) (eAndM ma mb) := by
  obtain ⟨t, p, s⟩ := ha
  obtain ⟨t2, p2, s2⟩ := hb
  refine ⟨_, pe_and p p2, fun g σ h τ H Q rs rh q => ?_⟩
  refine s g σ h τ H _ rs rh ((Post.bind q).imp (fun c H1 ⟨g1, c', h1, m1, q1⟩ => ?_) fun _ _ _ z => z)
  obtain ⟨d, rfl, rfl, q2⟩ := asB_bind (H := H1) m1.rep q1
  refine ⟨d, rfl, ?_⟩
  cases d with
  | true => exact s2 g1 σ h1 τ H1 Q (rs.mono m1.le m1.len) m1.rel q2
  | false => exact const_run m1.rel (by simp only [Rep]) q2
theorem SE.or (ha : SE c X W a ma) (hb : SE c X W (.BoolOp .Or (b :: rest) pos) mb) : SE c X W (.BoolOp .Or (a :: b :: rest) pos) (eOrM ma mb) := by
  obtain ⟨t, p, s⟩ := ha
  obtain ⟨t2, p2, s2⟩ := hb
  refine ⟨_, pe_or p p2, fun g σ h τ H Q rs rh q => ?_⟩
  refine s g σ h τ H _ rs rh ((Post.bind q).imp (fun c H1 ⟨g1, c', h1, m1, q1⟩ => ?_) fun _ _ _ z => z)
  obtain ⟨d, rfl, rfl, q2⟩ := asB_bind (H := H1) m1.rep q1
  refine ⟨d, rfl, ?_⟩
  cases d with
  | true => exact const_run m1.rel (by simp only [Rep]) q2
  | false => exact s2 g1 σ h1 τ H1 Q (rs.mono m1.le m1.len) m1.rel q2
theorem SE.not (ha : SE c X W a ma) : SE c X W (.UnaryOp .Not a pos) (eNotM ma) := by
  obtain ⟨t, p, s⟩ := ha
  refine ⟨_, pe_not p, fun g σ h τ H Q rs rh q => ?_⟩
  refine s g σ h τ H _ rs rh ((Post.bind q).imp (fun c H1 ⟨g1, c', h1, m1, q1⟩ => ?_) fun _ _ _ z => z)
  obtain ⟨d, rfl, rfl, q2⟩ := asB_bind (H := H1) m1.rep q1
  exact ⟨d, rfl, const_run m1.rel (by simp only [Rep]) q2⟩
def eIfM (c : TM) (a b : EM) : EM := fun σ h => (c σ h).bind fun k h1 => if k = true then a σ h1 else b σ h1
theorem SE.ite {ce : Expr} {tc : TM} (hc : ST c X W ce tc) (ha : SE c X W a ma) (hb : SE c X W b mb) : SE c X W (.IfExp ce a b pos) (eIfM tc ma mb) := by
  obtain ⟨t, p, s⟩ := hc
  obtain ⟨t1, p1, s1⟩ := ha
  obtain ⟨t2, p2, s2⟩ := hb
  refine ⟨_, pe_ifExp p p1 p2, fun g σ h τ H Q rs rh q => ?_⟩
  refine s g σ h τ H _ rs rh ((Post.bind q).imp (fun c H1 ⟨g1, c', h1, m1, q1⟩ => ?_) fun _ _ _ z => z)
  obtain rfl : c = c' := m1.rep
  cases c with
  | true => exact s1 g1 σ h1 τ H1 Q (rs.mono m1.le m1.len) m1.rel q1
  | false => exact s2 g1 σ h1 τ H1 Q (rs.mono m1.le m1.len) m1.rel q1
def eChain (f f' : PV → PV → VH → Res PV) (a b c : EM) : EM := fun σ h => (a σ h).bind fun x h1 => (b σ h1).bind fun y h2 => (f x y h2).bind fun z h3 => (asB z h3).bind fun k h4 => if k = true then (c σ h4).bind fun w h5 => f' y w h5 else .ok (.bl false) h4
theorem chain_run {r r' : R2} {f f' : PV → PV → VH → Res PV} {ta tb tc : TE} {ma mb mc : EM} (hs : OpS c X r f) (hs' : OpS c X r' f')
    (sa : ∀ g σ h τ H Q, RelS (kx c X) g h.length σ τ → RelH (kx c X) g h H → Post (kx c X) (Rep (kx c X)) g h.length Q (at_ W τ) (ma σ h) → ta τ H Q)
    (sb : ∀ g σ h τ H Q, RelS (kx c X) g h.length σ τ → RelH (kx c X) g h H → Post (kx c X) (Rep (kx c X)) g h.length Q (at_ W τ) (mb σ h) → tb τ H Q)
    (sc : ∀ g σ h τ H Q, RelS (kx c X) g h.length σ τ → RelH (kx c X) g h H → Post (kx c X) (Rep (kx c X)) g h.length Q (at_ W τ) (mc σ h) → tc τ H Q)
    {g : Gh} {σ : LS} {h : VH} {τ : L2.St} {H : Hp} {Q : VK} (rs : RelS (kx c X) g h.length σ τ) (rh : RelH (kx c X) g h H) (p : Post (kx c X) (Rep (kx c X)) g h.length Q (at_ W τ) (eChain f f' ma mb mc σ h)) : tChain r r' ta tb tc τ H Q := by
  refine sa g σ h τ H _ rs rh ((Post.bind p).imp (fun u H1 ⟨g1, x, h1, m1, p1⟩ => ?_) fun _ _ _ z => z)
  refine sb g1 σ h1 τ H1 _ (rs.mono m1.le m1.len) m1.rel ((Post.bind p1).imp (fun v H2 ⟨g2, y, h2, m2, p2⟩ => ?_) fun _ _ _ z => z)
  have le2 := m1.le.trans m2.le m1.len
  have ln2 := Nat.le_trans m1.len m2.len
  refine hs g2 h2 H2 x y u v _ _ (m1.rep.mono m2.le m2.len) m2.rep m2.rel ((Post.bind p2).imp (fun z H3 ⟨g3, z', h3, m3, p3⟩ => ?_) fun _ _ _ z => z)
  obtain ⟨d, rfl, rfl, p4⟩ := asB_bind (H := H3) m3.rep p3
  refine ⟨d, rfl, ?_⟩
  cases d with
  | true =>
    rw [if_pos rfl]
    refine sc g3 σ h3 τ H3 _ (rs.mono (le2.trans m3.le ln2) (Nat.le_trans ln2 m3.len)) m3.rel ((Post.bind p4).imp (fun w H5 ⟨g5, w', h5, m5, p5⟩ => ?_) fun _ _ _ z => z)
    exact hs' g5 h5 H5 y w' v w Q _ ((m2.rep.mono m3.le m3.len).mono m5.le m5.len) m5.rep m5.rel p5
  | false =>
    rw [if_neg Bool.false_ne_true]
    exact const_run m3.rel (by simp only [Rep]) p4
theorem SE.chain {op op' : CmpOp} {r r' : R2} {f f' : PV → PV → VH → Res PV} {ce : Expr} {mc : EM} (ho : OpR X (compareOp op) r) (ho' : OpR X (compareOp op') r') (hs : OpS c X r f) (hs' : OpS c X r' f') (ha : SE c X W a ma) (hb : SE c X W b mb) (hc : SE c X W ce mc)
    (hm : lastMarks [op, op'] [b, ce] = false := by with_unfolding_all rfl) : SE c X W (.Compare a [op, op'] [b, ce] pos) (eChain f f' ma mb mc) := by
  obtain ⟨ta, pa, sa⟩ := ha
  obtain ⟨tb, pb, sb⟩ := hb
  obtain ⟨tc, pc, sc⟩ := hc
  exact ⟨_, pe_chain ho ho' pa pb pc hm, fun g σ h τ H Q rs rh p => chain_run hs hs' sa sb sc rs rh p⟩
theorem ST.chain {op op' : CmpOp} {r r' : R2} {f f' : PV → PV → VH → Res PV} {ce : Expr} {mc : EM} (ho : OpR X (compareOp op) r) (ho' : OpR X (compareOp op') r') (hs : OpS c X r f) (hs' : OpS c X r' f') (ha : SE c X W a ma) (hb : SE c X W b mb) (hc : SE c X W ce mc)
    (hm : lastMarks [op, op'] [b, ce] = false := by with_unfolding_all rfl) : ST c X W (.Compare a [op, op'] [b, ce] pos) (tVal (eChain f f' ma mb mc)) := by
  obtain ⟨ta, pa, sa⟩ := ha
  obtain ⟨tb, pb, sb⟩ := hb
  obtain ⟨tc, pc, sc⟩ := hc
  refine ⟨_, pt_chain ho ho' pa pb pc hm, fun g σ h τ H Q rs rh p => ?_⟩
  exact chain_run (Q := fun x H' => ∃ k, x = .bl k ∧ Q k H') hs hs' sa sb sc rs rh ((Post.bind p).imp (fun u H1 ⟨g1, x, h1, m1, p1⟩ => asB_run m1.rep m1.rel p1) fun _ _ _ z => z)

/-! ### argument lists, built-in calls -/
theorem SA.nil : SA c X W [] aNil := ⟨fun σ h xs h' e => by cases e; rfl, _, pa_nil, fun g σ h τ H Q rs rh p => p g [] H (Gh.le.refl _ _) (Nat.le_refl _) rh Reps.nil⟩
theorem SA.cons {e : Expr} {es : List Expr} {m : EM} {ms : AM} (he : SE c X W e m) (hs : SA c X W es ms) (hst : starEach (e :: es) X.env = (false, eval e X.env) :: starEach es X.env := by rfl) : SA c X W (e :: es) (aCons m ms) := by
  obtain ⟨t, p, s⟩ := he
  obtain ⟨l2, t2, p2, s2⟩ := hs
  refine ⟨fun σ h xs h' e => ?_, _, pa_cons p p2 hst, fun g σ h τ H Q rs rh q => ?_⟩
  · dsimp only [aCons] at e
    cases e1 : m σ h with
    | ok x h1 =>
      rw [e1, Res.bind_ok] at e
      cases e2 : ms σ h1 with
      | ok ys h2 =>
        rw [e2, Res.bind_ok] at e
        cases e
        rw [List.length_cons, List.length_cons, l2 _ _ _ _ e2]
      | exc a b => rw [e2] at e; cases e
      | bad => rw [e2] at e; cases e
    | exc a b => rw [e1] at e; cases e
    | bad => rw [e1] at e; cases e
  refine s g σ h τ H _ rs rh ((Post.bind q).imp (fun u H1 ⟨g1, x, h1, m1, q1⟩ => ?_) fun _ _ _ z => z)
  refine s2 g1 σ h1 τ H1 _ (rs.mono m1.le m1.len) m1.rel ((Post.bind q1).imp (fun us H2 ⟨g2, xs, h2, m2, q2⟩ => ?_) fun _ _ _ z => z)
  exact q2 g2 _ H2 (Gh.le.refl _ _) (Nat.le_refl _) m2.rel (Reps.cons (m1.rep.mono m2.le m2.len) m2.rep)
theorem call_run {r : List V → Hp → VK → Prop} {f : List PV → VH → Res PV} {t : TA} {ms : AM} (hs : CallS c X r f)
    (s : ∀ g σ h τ H Q, RelS (kx c X) g h.length σ τ → RelH (kx c X) g h H → Post (kx c X) (Reps (kx c X)) g h.length Q (at_ W τ) (ms σ h) → t τ H Q) {g : Gh} {σ : LS} {h : VH} {τ : L2.St} {H : Hp} {Q : VK} (rs : RelS (kx c X) g h.length σ τ) (rh : RelH (kx c X) g h H) (p : Post (kx c X) (Rep (kx c X)) g h.length Q (at_ W τ) (eCall f ms σ h)) : tCB r t τ H Q :=
  s g σ h τ H _ rs rh ((Post.bind p).imp (fun u H1 ⟨g1, x, h1, m1, p1⟩ => hs g1 h1 H1 x u Q _ m1.rep m1.rel p1) fun _ _ _ z => z)
theorem SE.callB {x : Str} {id : String} {r : List V → Hp → VK → Prop} {f : List PV → VH → Res PV} {e : Expr} {es : List Expr} {ms : AM} {p : Pos} (hc : CallR X (.builtin id) r) (hs : CallS c X r f) (hg : Gl X x) (hm : X.mg x = none) (hv : bootBuiltins x = some (.builtin id)) (ha : SA c X W (e :: es) ms)
    (hn : x ≠ "__name__" := by decide) (hdb : (x == ("__debug__" : Str)) = false := by decide) (he : starEach (e :: es) X.env = (false, eval e X.env) :: starEach es X.env := by rfl) (hpl : (backTo pos (starEach es X.env)).any (·.1) = false := by rfl) : SE c X W (.Call (.Name x p) (e :: es) [] pos) (eCall f ms) := by
  obtain ⟨_, t, pa, s⟩ := ha
  exact ⟨_, pe_callB hc hg hm hv pa hn hdb he hpl, fun g σ h τ H Q rs rh p => call_run hs s rs rh p⟩
theorem SE.callTy {x : Str} {T : String} {r : List V → Hp → VK → Prop} {f : List PV → VH → Res PV} {e : Expr} {es : List Expr} {ms : AM} {p : Pos} (hc : CallR X (.type T) r) (hs : CallS c X r f) (hg : Gl X x) (hm : X.mg x = none) (hv : bootBuiltins x = some (.type T)) (ha : SA c X W (e :: es) ms)
    (hn : x ≠ "__name__" := by decide) (hdb : (x == ("__debug__" : Str)) = false := by decide) (he : starEach (e :: es) X.env = (false, eval e X.env) :: starEach es X.env := by rfl) (hpl : (backTo pos (starEach es X.env)).any (·.1) = false := by rfl) : SE c X W (.Call (.Name x p) (e :: es) [] pos) (eCall f ms) := by
  obtain ⟨_, t, pa, s⟩ := ha
  exact ⟨_, pe_callTy hc hg hm hv pa hn hdb he hpl, fun g σ h τ H Q rs rh p => call_run hs s rs rh p⟩
end
end Pm
namespace Pm
open PySem PySem.Spec L2 PyProof.Rows

/-! ### statements -/
def sNil : SM := fun σ h => .nx σ h
def sCons (a b : SM) : SM := fun σ h => (a σ h).bind b
def sDrop (m : EM) : SM := fun σ h => (m σ h).then σ fun _ h1 => .nx σ h1
def sRet (m : EM) : SM := fun σ h => (m σ h).then σ fun v h1 => .rt v h1
def sRetN : SM := fun _ h => .rt .non h
def sBrk : SM := fun σ h => .bk σ h
def sCnt : SM := fun σ h => .ct σ h
def sIf (c : TM) (a b : SM) : SM := fun σ h => (c σ h).then σ fun k h1 => if k = true then a σ h1 else b σ h1
def sSet (i : Nat) (m : EM) : SM := fun σ h => (m σ h).then σ fun v h1 => .nx (σ.set i (some v)) h1
section
variable {c : Ck} {X : Cx} {W : WX} {pos : Pos}
theorem SS.nil : SS c X W [] sNil := ⟨_, pss_nil, fun g σ h τ H D rs rh p => p g τ H (Gh.le.refl _ _) (Nat.le_refl _) rh rs⟩
theorem PostS.bind {K : Kc} {g : Gh} {n : Nat} {D : Ends} {r : SR} {m : SM} (p : PostS K g n D W (r.bind m)) :
    PostS K g n { D with nx := fun τ H => ∃ g1 σ h1, g.le n g1 ∧ n ≤ h1.length ∧ RelH K g1 h1 H ∧ RelS K g1 h1.length σ τ ∧ PostS K g1 h1.length D W (m σ h1) } W r := by
  cases r with
  | nx σ h' => exact fun g' τ H' l hn rh rs => ⟨g', σ, h', l, hn, rh, rs, PostS.up p l hn⟩
  | bk σ h' => exact p
  | ct σ h' => exact p
  | rt v h' => exact p
  | xc e σ h' => exact p
  | bad => exact p
theorem PostS.imp {K : Kc} {g : Gh} {n : Nat} {D D' : Ends} {W' : WX} {r : SR} (p : PostS K g n D W r) (h1 : ∀ τ H, D.nx τ H → D'.nx τ H) (h2 : ∀ v H, D.rt v H → D'.rt v H) (h3 : ∀ τ H, D.bk τ H → D'.bk τ H) (h4 : ∀ τ H, D.ct τ H → D'.ct τ H)
    (h5 : ∀ c d τ H, W c d τ H → W' c d τ H) : PostS K g n D' W' r := by
  cases r with
  | nx σ h' => exact fun g' τ H' l hn rh rs => h1 _ _ (p g' τ H' l hn rh rs)
  | bk σ h' => exact fun g' τ H' l hn rh rs => h3 _ _ (p g' τ H' l hn rh rs)
  | ct σ h' => exact fun g' τ H' l hn rh rs => h4 _ _ (p g' τ H' l hn rh rs)
  | rt v h' => exact fun g' τ H' l hn rh rs => h2 _ _ (p g' τ H' l hn rh rs)
  | xc e σ h' => exact fun g' c d τ H' l hn rh rs rx => h5 _ _ _ _ (p g' c d τ H' l hn rh rs rx)
  | bad => exact p
theorem SS.cons {s : Stmt} {ss : List Stmt} {m ms : SM} (h1 : S1 c X W s m) (h2 : SS c X W ss ms) : SS c X W (s :: ss) (sCons m ms) := by
  obtain ⟨t, p, s1⟩ := h1
  obtain ⟨t2, p2, s2⟩ := h2
  refine ⟨_, pss_cons p p2, fun g σ h τ H D rs rh q => ?_⟩
  refine s1 g σ h τ H _ rs rh (PostS.imp (PostS.bind q) (fun τ1 H1 hh => ?_) (fun _ _ z => z) (fun _ _ z => z) (fun _ _ z => z) (fun _ _ _ _ z => z))
  obtain ⟨g1, σ1, h1, l, hn, rh1, rs1, q1⟩ := hh
  exact s2 g1 σ1 h1 τ1 H1 D rs1 rh1 q1
theorem SS.one {s : Stmt} {m : SM} (h1 : S1 c X W s m) : SS c X W [s] m := by
  obtain ⟨t, p, s1⟩ := h1
  exact ⟨t, pss_one p, s1⟩
theorem S1.pass : S1 c X W (.Pass pos) sNil := ⟨_, ps_pass, fun g σ h τ H D rs rh p => p g τ H (Gh.le.refl _ _) (Nat.le_refl _) rh rs⟩
theorem S1.brk : S1 c X W (.Break pos) sBrk := ⟨_, ps_break, fun g σ h τ H D rs rh p => p g τ H (Gh.le.refl _ _) (Nat.le_refl _) rh rs⟩
theorem S1.cnt : S1 c X W (.Continue pos) sCnt := ⟨_, ps_continue, fun g σ h τ H D rs rh p => p g τ H (Gh.le.refl _ _) (Nat.le_refl _) rh rs⟩
theorem S1.doc {x : Str} {j : Nat} {pos' : Pos} : S1 c X W (.Expr (.Constant (.str x) j pos) pos') sNil := ⟨_, ps_doc, fun g σ h τ H D rs rh p => p g τ H (Gh.le.refl _ _) (Nat.le_refl _) rh rs⟩
theorem S1.drop {e : Expr} {m : EM} (he : SE c X W e m) (hs : swapsWith e none pos.line X.env = pure false := by rfl) : S1 c X W (.Expr e pos) (sDrop m) := by
  obtain ⟨t, p, s⟩ := he
  refine ⟨_, ps_expr p hs, fun g σ h τ H D rs rh q => ?_⟩
  refine s g σ h τ H _ rs rh ((PostS.then rs q).imp (fun u H1 ⟨g1, x, h1, m1, q1⟩ => ?_) fun _ _ _ z => z)
  exact q1 g1 τ H1 (Gh.le.refl _ _) (Nat.le_refl _) m1.rel (rs.mono m1.le m1.len)
theorem S1.ret {e : Expr} {m : EM} (he : SE c X W e m) : S1 c X W (.Return (some e) pos) (sRet m) := by
  obtain ⟨t, p, s⟩ := he
  refine ⟨_, ps_ret p, fun g σ h τ H D rs rh q => ?_⟩
  refine s g σ h τ H _ rs rh ((PostS.then rs q).imp (fun u H1 ⟨g1, x, h1, m1, q1⟩ => ?_) fun _ _ _ z => z)
  exact q1 g1 u H1 (Gh.le.refl _ _) (Nat.le_refl _) m1.rel m1.rep
theorem S1.retN : S1 c X W (.Return none pos) sRetN := ⟨_, ps_retN, fun g σ h τ H D rs rh p => p g .non H (Gh.le.refl _ _) (Nat.le_refl _) rh (by simp only [Rep])⟩
theorem S1.ite {e : Expr} {a b : List Stmt} {mt : TM} {ma mb : SM} (hc : ST c X W e mt) (ha : SS c X W a ma) (hb : SS c X W b mb) : S1 c X W (.If e a b pos) (sIf mt ma mb) := by
  obtain ⟨t, p, s⟩ := hc
  obtain ⟨t1, p1, s1⟩ := ha
  obtain ⟨t2, p2, s2⟩ := hb
  refine ⟨_, ps_if p p1 p2, fun g σ h τ H D rs rh q => ?_⟩
  refine s g σ h τ H _ rs rh ((PostS.then rs q).imp (fun k H1 ⟨g1, k', h1, m1, q1⟩ => ?_) fun _ _ _ z => z)
  obtain rfl : k = k' := m1.rep
  cases k with
  | true => exact s1 g1 σ h1 τ H1 D (rs.mono m1.le m1.len) m1.rel q1
  | false => exact s2 g1 σ h1 τ H1 D (rs.mono m1.le m1.len) m1.rel q1
theorem S1.set {i : Nat} {x : Str} {e : Expr} {m : EM} {pos' : Pos} (hN : X.N.Nodup) (hi : X.N[i]? = some x) (hx : Loc X.env.scope x) (he : SE c X W e m) (hs : swapsWith e (some (.Name x pos')) pos.line X.env = pure false := by rfl)
    (hf : X.fn x = true ∨ X.env.scope.names.lookup x = some .local := by first | exact .inl rfl | exact .inr rfl | assumption) : S1 c X W (.Assign [.Name x pos'] e pos) (sSet i m) := by
  obtain ⟨t, p, s⟩ := he
  refine ⟨_, ps_set hN hi hx p hs hf, fun g σ h τ H D rs rh q => ?_⟩
  refine s g σ h τ H _ rs rh ((PostS.then rs q).imp (fun u H1 ⟨g1, x, h1, m1, q1⟩ => ?_) fun _ _ _ z => z)
  exact q1 g1 _ H1 (Gh.le.refl _ _) (Nat.le_refl _) m1.rel ((rs.mono m1.le m1.len).set i m1.rep)

/-! ### targets -/
abbrev GM := PV → LS → VH → Res LS
abbrev RepT (K : Kc) : Gh → Nat → LS → L2.St → Prop := fun g n σ τ => RelS K g n σ τ
abbrev noX : XK := fun _ _ _ => False
def Res.sr : Res LS → SR
  | .ok σ h => .nx σ h
  | _ => .bad
@[simp] theorem Res.sr_ok (σ : LS) (h : VH) : (Res.ok σ h).sr = .nx σ h := (rfl)
@[simp] theorem Res.sr_bad : (Res.bad : Res LS).sr = .bad := (rfl)
@[simp] theorem Res.sr_exc (e : PX) (h : VH) : (Res.exc e h : Res LS).sr = .bad := (rfl)
theorem PostS.sr {K : Kc} {g : Gh} {n : Nat} {D : Ends} {W : WX} {r : Res LS} (p : PostS K g n D W r.sr) : Post K (RepT K) g n D.nx noX r := by
  cases r with
  | ok σ h' => exact fun g' τ H' l hn rh rs => p g' τ H' l hn rh rs
  | exc e h' => exact p.elim
  | bad => exact p
def SG (c : Ck) (X : Cx) (e : Expr) (m : GM) : Prop := ∃ t, PG X e t ∧ ∀ g σ h τ H v u N, RelS (kx c X) g h.length σ τ → RelH (kx c X) g h H → Rep (kx c X) g h.length v u → Post (kx c X) (RepT (kx c X)) g h.length N noX (m v σ h) → t u τ H N
def gSlot (i : Nat) : GM := fun v σ h => .ok (σ.set i (some v)) h
theorem SG.name {i : Nat} {x : Str} (hN : X.N.Nodup) (hi : X.N[i]? = some x) (hx : Loc X.env.scope x) (hf : X.fn x = true ∨ X.env.scope.names.lookup x = some .local := by first | exact .inl rfl | exact .inr rfl | assumption) : SG c X (.Name x pos) (gSlot i) :=
  ⟨_, pg_name hN hi hx hf, fun g σ h τ H v u N rs rh rv q => q g _ H (Gh.le.refl _ _) (Nat.le_refl _) rh (rs.set i rv)⟩
/-- the items of a tuple: (a, b, ..) = v -/
abbrev GMs := List PV → LS → VH → Res LS
def SGs (c : Ck) (X : Cx) (es : List Expr) (m : GMs) : Prop := ∃ t, PGs X es t ∧ ∀ g σ h τ H vs us N, RelS (kx c X) g h.length σ τ → RelH (kx c X) g h H → Reps (kx c X) g h.length vs us → Post (kx c X) (RepT (kx c X)) g h.length N noX (m vs σ h) → t us τ H N
def gNil' : GMs := fun vs σ h => match vs with
  | [] => .ok σ h
  | _ => .bad
def gCons' (m : GM) (ms : GMs) : GMs := fun vs σ h => match vs with
  | v :: r => (m v σ h).bind fun σ1 h1 => ms r σ1 h1
  | [] => .bad
@[simp] theorem gNil'_nil (σ : LS) (h : VH) : gNil' [] σ h = .ok σ h := (rfl)
@[simp] theorem gCons'_cons (m : GM) (ms : GMs) (v : PV) (r : List PV) (σ : LS) (h : VH) : gCons' m ms (v :: r) σ h = (m v σ h).bind fun σ1 h1 => ms r σ1 h1 := (rfl)
theorem SGs.nil : SGs c X [] gNil' := by
  refine ⟨_, pgs_nil, fun g σ h τ H vs us N rs rh rv q => ?_⟩
  cases vs with
  | nil =>
    simp only [Reps] at rv
    exact ⟨rv, q g τ H (Gh.le.refl _ _) (Nat.le_refl _) rh rs⟩
  | cons v r => exact q.elim
theorem SGs.cons {e : Expr} {es : List Expr} {m : GM} {ms : GMs} (h1 : SG c X e m) (h2 : SGs c X es ms) (hs : (assignEach (e :: es) X.env).map (·.2) = assign e X.env :: (assignEach es X.env).map (·.2) := by rfl) : SGs c X (e :: es) (gCons' m ms) := by
  obtain ⟨t, p, s⟩ := h1
  obtain ⟨t2, p2, s2⟩ := h2
  refine ⟨_, pgs_cons p p2 hs, fun g σ h τ H vs us N rs rh rv q => ?_⟩
  cases vs with
  | nil => exact q.elim
  | cons v r =>
    simp only [Reps] at rv
    obtain ⟨u, us', rfl, r1, r2⟩ := rv
    refine ⟨u, us', rfl, ?_⟩
    refine s g σ h τ H v u _ rs rh r1 ((Post.bind q).imp (fun τ1 H1 ⟨g1, σ1, h1, m1, q1⟩ => ?_) fun _ _ _ z => z)
    exact s2 g1 σ1 h1 τ1 H1 r us' N m1.rep m1.rel (r2.mono m1.le m1.len) q1
def gTupM (n : Nat) (ms : GMs) : GM := fun v σ h => match v with
  | .tup xs => if xs.length = n then ms xs σ h else .bad
  | _ => .bad
@[simp] theorem gTupM_tup (n : Nat) (ms : GMs) (xs : List PV) (σ : LS) (h : VH) : gTupM n ms (.tup xs) σ h = if xs.length = n then ms xs σ h else .bad := (rfl)
theorem SG.tup {es : List Expr} {k : Nat} {ms : GMs} {n : Nat} (hc : X.calm = true) (hs : SGs c X es ms) (hn : (assignEach es X.env).length = n := by rfl) (hst : (assignEach es X.env).findIdx? (·.1) = none := by rfl) : SG c X (.Tuple es k pos) (gTupM n ms) := by
  obtain ⟨t, p, s⟩ := hs
  refine ⟨_, pg_tup hc p hn hst, fun g σ h τ H v u N rs rh rv q => ?_⟩
  cases v with
  | tup xs =>
    simp only [Rep] at rv
    obtain ⟨a, us, rfl, sq, rr⟩ := rv
    rw [gTupM_tup] at q
    split at q
    · rename_i e
      exact ⟨a, us, rfl, .inl (.inl (rh.same _ _ sq)), rr.length.trans e, s g σ h τ H xs us N rs rh rr q⟩
    · exact q.elim
  | _ => exact q.elim
def sAsg (m : EM) (gm : GM) : SM := fun σ h => (m σ h).then σ fun v h1 => (gm v σ h1).sr
theorem S1.asg {tg e : Expr} {m : EM} {gm : GM} (he : SE c X W e m) (hg : SG c X tg gm) (hs : swapsWithSole [tg] e pos.line X.env = pure false := by rfl) (hw : swappedStores [tg] e X.env = pure none := by rfl)
    (h1 : (assignEach [tg] X.env).map (·.2) = [assign tg X.env] := by rfl) : S1 c X W (.Assign [tg] e pos) (sAsg m gm) := by
  obtain ⟨t, p, s⟩ := he
  obtain ⟨t2, p2, s2⟩ := hg
  refine ⟨_, ps_asg p p2 hs hw h1, fun g σ h τ H D rs rh q => ?_⟩
  refine s g σ h τ H _ rs rh ((PostS.then rs q).imp (fun u H1 ⟨g1, x, h1, m1, q1⟩ => ?_) fun _ _ _ z => z)
  exact s2 g1 σ h1 τ H1 x u _ (rs.mono m1.le m1.len) m1.rel m1.rep (PostS.sr q1)

/-! ### for, while -/
structure Src where
  xs : List PV
  ck : List (Nat × List PV)
def ckOk (ck : List (Nat × List PV)) (h : VH) : Prop := ∀ p ∈ ck, h[p.1]? = some (.lst p.2)
@[simp] theorem ckOk_nil (h : VH) : ckOk [] h = True := by simp [ckOk]
/-- what a walk gives is as told -/
def SrcOk (K : Kc) (g0 : Gh) (n0 : Nat) (s : Src) (J : It) : Prop := ∃ (Gp : Hp → Prop) (Y : Nat → Hp → V → Hp → Prop), Walk J s.xs.length Gp Y ∧
  (∀ g h H, g0.le0 n0 g → n0 ≤ h.length → RelH K g h H → ckOk s.ck h → Gp H) ∧
  (∀ i x g h H H', g0.le0 n0 g → n0 ≤ h.length → RelH K g h H → ckOk s.ck h → s.xs[i]? = some x → ∀ u, Y i H u H' → ∃ g', g.le h.length g' ∧ RelH K g' h H' ∧ Rep K g' h.length x u)
def SI (c : Ck) (X : Cx) (W : WX) (tg it : Expr) (m : LS → VH → Res Src) : Prop := ∃ t, PI X tg it t ∧ ∀ g σ h τ H R, RelS (kx c X) g h.length σ τ → RelH (kx c X) g h H → Post (kx c X) (SrcOk (kx c X)) g h.length R (at_ W τ) (m σ h) → t τ H R
open Classical in
noncomputable def forL (ck : List (Nat × List PV)) (gm : GM) (body : SM) : List PV → SM
  | [], σ, h => if ckOk ck h then .nx σ h else .bad
  | x :: xs, σ, h => if ckOk ck h then
      match (gm x σ h).sr.bind body with
      | .nx σ' h' => forL ck gm body xs σ' h'
      | .ct σ' h' => forL ck gm body xs σ' h'
      | .bk σ' h' => .nx σ' h'
      | .rt v h' => .rt v h'
      | .xc e σ' h' => .xc e σ' h'
      | .bad => .bad
    else .bad
noncomputable def sFor (src : LS → VH → Res Src) (gm : GM) (body : SM) : SM := fun σ h => (src σ h).then σ fun s h1 => forL s.ck gm body s.xs σ h1
noncomputable def whileL (t : TM) (body : SM) : Nat → SM
  | 0, _, _ => .bad
  | n + 1, σ, h => (t σ h).then σ fun k h1 => if k = true then
      match body σ h1 with
      | .nx σ' h' => whileL t body n σ' h'
      | .ct σ' h' => whileL t body n σ' h'
      | .bk σ' h' => .nx σ' h'
      | .rt v h' => .rt v h'
      | .xc e σ' h' => .xc e σ' h'
      | .bad => .bad
    else .nx σ h1

theorem PostS.loop {K : Kc} {g : Gh} {n : Nat} {D : Ends} {W : WX} {r : SR} {k : LS → VH → SR}
    (p : PostS K g n D W (match r with
      | .nx σ' h' => k σ' h'
      | .ct σ' h' => k σ' h'
      | .bk σ' h' => .nx σ' h'
      | .rt v h' => .rt v h'
      | .xc e σ' h' => .xc e σ' h'
      | .bad => .bad)) {N : L2.St → Hp → Prop} (hN : ∀ g1 σ h1 τ H, g.le n g1 → n ≤ h1.length → RelH K g1 h1 H → RelS K g1 h1.length σ τ → PostS K g1 h1.length D W (k σ h1) → N τ H) :
    PostS K g n { D with nx := N, ct := N, bk := D.nx } W r := by
  cases r with
  | nx σ h' => exact fun g' τ H' l hn rh rs => hN g' σ h' τ H' l hn rh rs (PostS.up p l hn)
  | ct σ h' => exact fun g' τ H' l hn rh rs => hN g' σ h' τ H' l hn rh rs (PostS.up p l hn)
  | bk σ h' => exact p
  | rt v h' => exact p
  | xc e σ h' => exact p
  | bad => exact p
theorem S1.for {tg it : Expr} {body : List Stmt} {ms : LS → VH → Res Src} {gm : GM} {mb : SM} (hp : PassesOwn (model X.prog X.w) X.A X.env X.xe) (hc : X.calm = true) (hi : SI c X W tg it ms) (hg : SG c X tg gm) (hb : SS c X W body mb)
    (hs : ∀ x, foldedSetIterable it X.env x = pure x := by intro _; rfl) : S1 c X W (.For tg it body [] pos) (sFor ms gm mb) := by
  obtain ⟨t, p, s⟩ := hi
  obtain ⟨tg', pg, sg⟩ := hg
  obtain ⟨tb, pb, sb⟩ := hb
  refine ⟨_, ps_for hp hc p pg pb hs, fun g σ h τ H D rs rh q => ?_⟩
  refine s g σ h τ H _ rs rh ((PostS.then rs q).imp (fun J H1 ⟨g1, src, h1, m1, q1⟩ => ?_) fun _ _ _ z => z)
  obtain ⟨Gp, Y, wk, hG, hY⟩ := m1.rep
  refine for_it wk (fun i τ' H' => ∃ g' σ' h', g1.le h1.length g' ∧ h1.length ≤ h'.length ∧ RelH (kx c X) g' h' H' ∧ RelS (kx c X) g' h'.length σ' τ' ∧ PostS (kx c X) g' h'.length D W (forL src.ck gm mb (src.xs.drop i) σ' h'))
    ⟨g1, σ, h1, Gh.le.refl _ _, Nat.le_refl _, m1.rel, rs.mono m1.le m1.len, q1⟩ (fun i τ' H' hi hh => ?_) (fun i x τ' H2 H3 hi hh hy => ?_) fun τ' H' hh => ?_
  · obtain ⟨g', σ', h', l, hn, rh', rs', q'⟩ := hh
    refine hG g' h' H' l.to0 hn rh' ?_
    cases hd : src.xs.drop i with
    | nil =>
      rw [hd] at q'
      unfold forL at q'
      split at q'
      · assumption
      · exact q'.elim
    | cons y ys =>
      rw [hd] at q'
      unfold forL at q'
      split at q'
      · assumption
      · exact q'.elim
  · obtain ⟨g', σ', h', l, hn, rh', rs', q'⟩ := hh
    have hx : src.xs.drop i = src.xs[i] :: src.xs.drop (i + 1) := List.drop_eq_getElem_cons hi
    rw [hx] at q'
    unfold forL at q'
    split at q'
    · rename_i hck
      obtain ⟨g2, l2, rh2, rx⟩ := hY i _ g' h' H2 H3 l.to0 hn rh' hck (List.getElem?_eq_getElem hi) x hy
      have q2 := PostS.up q' l2 (Nat.le_refl _)
      refine sg g2 σ' h' τ' H3 _ x _ (rs'.mono l2 (Nat.le_refl _)) rh2 rx ?_
      have q3 := PostS.loop (N := fun τ' H' => ∃ g' σ' h', g1.le h1.length g' ∧ h1.length ≤ h'.length ∧ RelH (kx c X) g' h' H' ∧ RelS (kx c X) g' h'.length σ' τ' ∧ PostS (kx c X) g' h'.length D W (forL src.ck gm mb (src.xs.drop (i + 1)) σ' h')) q2
        fun g3 σ3 h3 τ3 H4 l3 hn3 rh3 rs3 q4 => ⟨g3, σ3, h3, (l.trans l2 hn).trans l3 hn, Nat.le_trans hn hn3, rh3, rs3, q4⟩
      refine (PostS.sr (PostS.bind q3)).imp (fun τ3 H4 hh => ?_) fun _ _ _ z => z
      obtain ⟨g4, σ4, h4, l4, hn4, rh4, rs4, q5⟩ := hh
      exact sb g4 σ4 h4 τ3 H4 _ rs4 rh4 q5
    · exact q'.elim
  · obtain ⟨g', σ', h', l, hn, rh', rs', q'⟩ := hh
    rw [List.drop_length] at q'
    unfold forL at q'
    split at q'
    · exact q' g' τ' H' (Gh.le.refl _ _) (Nat.le_refl _) rh' rs'
    · exact q'.elim
theorem S1.while {t : Expr} {body : List Stmt} {mt : TM} {mb : SM} (n : Nat) (hp : PassesOwn (model X.prog X.w) X.A X.env X.xe) (ht : ST c X W t mt) (hb : SS c X W body mb) : S1 c X W (.While t body [] pos) (whileL mt mb n) := by
  obtain ⟨tt, pt, st⟩ := ht
  obtain ⟨tb, pb, sb⟩ := hb
  refine ⟨_, ps_while hp pt pb, fun g σ h τ H D rs rh q => ?_⟩
  refine ⟨fun m τ' H' => ∃ g' σ' h', g.le h.length g' ∧ h.length ≤ h'.length ∧ RelH (kx c X) g' h' H' ∧ RelS (kx c X) g' h'.length σ' τ' ∧ PostS (kx c X) g' h'.length D W (whileL mt mb m σ' h'), ⟨n, g, σ, h, Gh.le.refl _ _, Nat.le_refl _, rh, rs, q⟩, fun m τ' H' hh => ?_⟩
  obtain ⟨g', σ', h', l, hn, rh', rs', q'⟩ := hh
  cases m with
  | zero => exact q'.elim
  | succ m =>
    unfold whileL at q'
    refine st g' σ' h' τ' H' _ rs' rh' ((PostS.then rs' q').imp (fun k H1 ⟨g1, k', h1, m1, q1⟩ => ?_) fun _ _ _ z => z)
    obtain rfl : k = k' := m1.rep
    cases k with
    | true =>
      rw [if_pos rfl]
      refine ⟨fun τ3 H3 => ∃ g3 σ3 h3, g.le h.length g3 ∧ h.length ≤ h3.length ∧ RelH (kx c X) g3 h3 H3 ∧ RelS (kx c X) g3 h3.length σ3 τ3 ∧ PostS (kx c X) g3 h3.length D W (whileL mt mb m σ3 h3), fun τ3 H3 z => ⟨m, Nat.lt_succ_self _, z⟩, ?_⟩
      refine sb g1 σ' h1 τ' H1 _ (rs'.mono m1.le m1.len) m1.rel (PostS.loop q1 fun g3 σ3 h3 τ3 H4 l3 hn3 rh3 rs3 q4 => ?_)
      exact ⟨g3, σ3, h3, (l.trans m1.le hn).trans l3 (Nat.le_trans hn m1.len), Nat.le_trans (Nat.le_trans hn m1.len) hn3, rh3, rs3, q4⟩
    | false =>
      rw [if_neg Bool.false_ne_true]
      exact q1 g1 τ' H1 (Gh.le.refl _ _) (Nat.le_refl _) m1.rel (rs'.mono m1.le m1.len)
end
end Pm
namespace Pm
open PySem PySem.Spec L2 PyProof.Rows

/-! ### values that lean on the first n cells alone -/
mutual
def closedV (n : Nat) : PV → Prop
  | .tup xs => closedVs n xs
  | .lst xs => closedVs n xs
  | .scr xs => closedVs n xs
  | .ins _ fs => closedF n fs
  | .ref i => i < n
  | _ => True
def closedVs (n : Nat) : List PV → Prop
  | [] => True
  | x :: xs => closedV n x ∧ closedVs n xs
def closedF (n : Nat) : List (Str × PV) → Prop
  | [] => True
  | (_, x) :: xs => closedV n x ∧ closedF n xs
end
def closedO (n : Nat) : PO → Prop
  | .lst xs => closedVs n xs
  | .dic _ kvs => ∀ p ∈ kvs, closedV n p.2
  | .ins _ fs => closedF n fs
  | .dead => True
section
variable {n : Nat}
@[simp] theorem closedV_non : closedV n .non := by simp [closedV]
@[simp] theorem closedV_bl (b : Bool) : closedV n (.bl b) := by simp [closedV]
@[simp] theorem closedV_int (i : Int) : closedV n (.int i) := by simp [closedV]
@[simp] theorem closedV_str (i : Str) : closedV n (.str i) := by simp [closedV]
@[simp] theorem closedV_ty (i : String) : closedV n (.ty i) := by simp [closedV]
@[simp] theorem closedV_cls (i : Nat) : closedV n (.cls i) := by simp [closedV]
@[simp] theorem closedV_exn : closedV n .exn := by simp [closedV]
@[simp] theorem closedV_tup (xs : List PV) : closedV n (.tup xs) ↔ closedVs n xs := by simp [closedV]
@[simp] theorem closedV_lst (xs : List PV) : closedV n (.lst xs) ↔ closedVs n xs := by simp [closedV]
@[simp] theorem closedV_scr (xs : List PV) : closedV n (.scr xs) ↔ closedVs n xs := by simp [closedV]
@[simp] theorem closedV_ins (C : Nat) (fs : List (Str × PV)) : closedV n (.ins C fs) ↔ closedF n fs := by simp [closedV]
@[simp] theorem closedV_ref (i : Nat) : closedV n (.ref i) ↔ i < n := by simp [closedV]
@[simp] theorem closedVs_nil : closedVs n [] := by simp [closedVs]
@[simp] theorem closedVs_cons (x : PV) (xs : List PV) : closedVs n (x :: xs) ↔ closedV n x ∧ closedVs n xs := by simp [closedVs]
@[simp] theorem closedF_nil : closedF n [] := by simp [closedF]
@[simp] theorem closedF_cons (p : Str × PV) (xs : List (Str × PV)) : closedF n (p :: xs) ↔ closedV n p.2 ∧ closedF n xs := by cases p; simp [closedF]
theorem closedVs_iff : ∀ {xs : List PV}, closedVs n xs ↔ ∀ x ∈ xs, closedV n x
  | [] => by simp
  | x :: xs => by simp [closedVs_iff (xs := xs)]
theorem closedVs_map {α : Type} {f : α → PV} {xs : List α} (h : ∀ x ∈ xs, closedV n (f x)) : closedVs n (xs.map f) := by
  rw [closedVs_iff]; intro y hy
  obtain ⟨x, hx, rfl⟩ := List.mem_map.mp hy
  exact h x hx
@[simp] theorem closedVs_ints (xs : List Int) : closedVs n (xs.map PV.int) := closedVs_map fun _ _ => closedV_int _
@[simp] theorem closedVs_bls (xs : List Bool) : closedVs n (xs.map PV.bl) := closedVs_map fun _ _ => closedV_bl _
@[simp] theorem closedVs_strs (xs : List Str) : closedVs n (xs.map PV.str) := closedVs_map fun _ _ => closedV_str _
@[simp] theorem closedVs_append (xs ys : List PV) : closedVs n (xs ++ ys) ↔ closedVs n xs ∧ closedVs n ys := by
  simp only [closedVs_iff, List.mem_append]
  exact ⟨fun h => ⟨fun x hx => h x (.inl hx), fun x hx => h x (.inr hx)⟩, fun h x hx => hx.elim (h.1 x) (h.2 x)⟩
end
section
variable {K : Kc} {g : Gh} {n m : Nat}
mutual
theorem closed_of_rep : ∀ {x : PV} {u : V}, Rep K g n x u → closedV n x
  | .non, _, _ => closedV_non
  | .bl _, _, _ => closedV_bl _
  | .int _, _, _ => closedV_int _
  | .str _, _, _ => closedV_str _
  | .ty _, _, _ => closedV_ty _
  | .cls _, _, _ => closedV_cls _
  | .exn, _, _ => closedV_exn
  | .tup xs, _, h => by
    simp only [Rep] at h
    obtain ⟨a, us, e, s, r⟩ := h
    simpa only [closedV] using closeds_of_rep r
  | .lst xs, _, h => by
    simp only [Rep] at h
    obtain ⟨a, us, e, s, r⟩ := h
    simpa only [closedV] using closeds_of_rep r
  | .scr xs, _, h => by
    simp only [Rep] at h
    obtain ⟨a, us, e, s, r⟩ := h
    simpa only [closedV] using closeds_of_rep r
  | .ins C fs, _, h => by
    simp only [Rep] at h
    obtain ⟨a, dx, gs, e, s, r⟩ := h
    simpa only [closedV] using closedF_of_rep r
  | .ref i, _, h => by
    simp only [Rep] at h
    simpa only [closedV] using h.1
theorem closeds_of_rep : ∀ {xs : List PV} {us : List V}, Reps K g n xs us → closedVs n xs
  | [], _, _ => by simp only [closedVs]
  | x :: xs, _, h => by
    simp only [Reps] at h
    obtain ⟨u, r, e, a, b⟩ := h
    simp only [closedVs]
    exact ⟨closed_of_rep a, closeds_of_rep b⟩
theorem closedF_of_rep : ∀ {fs : List (Str × PV)} {us : List (Str × V)}, RepF K g n fs us → closedF n fs
  | [], _, _ => by simp only [closedF]
  | (f, x) :: xs, _, h => by
    simp only [RepF] at h
    obtain ⟨u, r, e, a, b⟩ := h
    simp only [closedF]
    exact ⟨closed_of_rep a, closedF_of_rep b⟩
end
mutual
theorem rep_of_closed : ∀ {x : PV} {u : V}, Rep K g m x u → closedV n x → Rep K g n x u
  | .non, _, h, _ => by simpa only [Rep] using h
  | .bl _, _, h, _ => by simpa only [Rep] using h
  | .int _, _, h, _ => by simpa only [Rep] using h
  | .str _, _, h, _ => by simpa only [Rep] using h
  | .ty _, _, h, _ => by simpa only [Rep] using h
  | .cls _, _, h, _ => by simpa only [Rep] using h
  | .exn, _, h, _ => by simpa only [Rep] using h
  | .tup xs, _, h, q => by
    simp only [Rep] at h ⊢
    simp only [closedV] at q
    obtain ⟨a, us, e, s, r⟩ := h
    exact ⟨a, us, e, s, reps_of_closed r q⟩
  | .lst xs, _, h, q => by
    simp only [Rep] at h ⊢
    simp only [closedV] at q
    obtain ⟨a, us, e, s, r⟩ := h
    exact ⟨a, us, e, s, reps_of_closed r q⟩
  | .scr xs, _, h, q => by
    simp only [Rep] at h ⊢
    simp only [closedV] at q
    obtain ⟨a, us, e, s, r⟩ := h
    exact ⟨a, us, e, s, reps_of_closed r q⟩
  | .ins C fs, _, h, q => by
    simp only [Rep] at h ⊢
    simp only [closedV] at q
    obtain ⟨a, dx, gs, e, s, r⟩ := h
    exact ⟨a, dx, gs, e, s, repF_of_closed r q⟩
  | .ref i, _, h, q => by
    simp only [Rep] at h ⊢
    simp only [closedV] at q
    exact ⟨q, h.2⟩
theorem reps_of_closed : ∀ {xs : List PV} {us : List V}, Reps K g m xs us → closedVs n xs → Reps K g n xs us
  | [], _, h, _ => by simpa only [Reps] using h
  | x :: xs, _, h, q => by
    simp only [Reps] at h ⊢
    simp only [closedVs] at q
    obtain ⟨u, r, e, a, b⟩ := h
    exact ⟨u, r, e, rep_of_closed a q.1, reps_of_closed b q.2⟩
theorem repF_of_closed : ∀ {fs : List (Str × PV)} {us : List (Str × V)}, RepF K g m fs us → closedF n fs → RepF K g n fs us
  | [], _, h, _ => by simpa only [RepF] using h
  | (f, x) :: xs, _, h, q => by
    simp only [RepF] at h ⊢
    simp only [closedF] at q
    obtain ⟨u, r, e, a, b⟩ := h
    exact ⟨u, r, e, rep_of_closed a q.1, repF_of_closed b q.2⟩
end
theorem repD_of_closed {κ : Type} {key : PV → Option κ} : ∀ {kvs : List (PV × PV)} {us : List (κ × V)}, RepD K g m key kvs us → (∀ p ∈ kvs, closedV n p.2) → RepD K g n key kvs us
  | [], _, h, _ => by simpa only [RepD] using h
  | (k, x) :: xs, _, h, q => by
    simp only [RepD] at h ⊢
    obtain ⟨k', u, r, e, ek, a, b⟩ := h
    exact ⟨k', u, r, e, ek, rep_of_closed a (q _ List.mem_cons_self), repD_of_closed b fun p hp => q p (List.mem_cons_of_mem _ hp)⟩
theorem closedD_of_rep {κ : Type} {key : PV → Option κ} : ∀ {kvs : List (PV × PV)} {us : List (κ × V)}, RepD K g n key kvs us → ∀ p ∈ kvs, closedV n p.2
  | [], _, _, p, hp => by cases hp
  | (k, x) :: xs, _, h, p, hp => by
    simp only [RepD] at h
    obtain ⟨k', u, r, e, ek, a, b⟩ := h
    rcases List.mem_cons.mp hp with rfl | hp
    · exact closed_of_rep a
    · exact closedD_of_rep b p hp
theorem repO_of_closed {o : PO} {u : HO} (h : RepO K g m o u) (q : closedO n o) : RepO K g n o u := by
  cases o with
  | lst xs => obtain ⟨us, e, r⟩ := h; exact ⟨us, e, reps_of_closed r q⟩
  | dic t kvs =>
    cases t with
    | false => obtain ⟨us, e, r⟩ := h; exact ⟨us, e, repD_of_closed r q⟩
    | true => obtain ⟨us, e, r⟩ := h; exact ⟨us, e, repD_of_closed r q⟩
  | ins C fs => obtain ⟨dx, gs, e, r⟩ := h; exact ⟨dx, gs, e, repF_of_closed r q⟩
  | dead => trivial
theorem closedO_of_rep {o : PO} {u : HO} (h : RepO K g n o u) : closedO n o := by
  cases o with
  | lst xs => obtain ⟨us, e, r⟩ := h; exact closeds_of_rep r
  | dic t kvs =>
    cases t with
    | false => obtain ⟨us, e, r⟩ := h; exact closedD_of_rep r
    | true => obtain ⟨us, e, r⟩ := h; exact closedD_of_rep r
  | ins C fs => obtain ⟨dx, gs, e, r⟩ := h; exact closedF_of_rep r
  | dead => trivial
end

/-! ### what was made within is let go -/
def gcOk (h h' : VH) : Prop := ∀ i o, i < h.length → h'[i]? = some o → h[i]? = some o ∨ closedO h.length o
open Classical in
noncomputable def gc (h : VH) (v : PV) (h' : VH) : Res PV := if gcOk h h' ∧ closedV h.length v then .ok v (h'.take h.length) else .ok v h'
open Classical in
noncomputable def gcX (h : VH) (e : PX) (h' : VH) : Res PV := if gcOk h h' ∧ closedF h.length e.fs then .exc e (h'.take h.length) else .exc e h'
@[simp] theorem gcOk_same (h : VH) : gcOk h h := fun _ _ _ e => .inl e
@[simp] theorem gcOk_app (h j : VH) : gcOk h (h ++ j) := fun i o hi e => .inl (by rwa [List.getElem?_append_left hi] at e)
theorem gcOk_set {h h' : VH} {i : Nat} {o : PO} (q : gcOk h h') (c : closedO h.length o) : gcOk h (h'.set i o) := fun j p hj e => by
  by_cases e2 : i = j
  · subst e2
    by_cases hl : i < h'.length
    · rw [List.getElem?_set_self hl] at e
      cases e
      exact .inr c
    · rw [List.getElem?_eq_none (by simpa using hl)] at e; cases e
  · rw [List.getElem?_set_ne e2] at e
    exact q j p hj e
theorem gc_eq {h : VH} {v : PV} {h' : VH} (a : gcOk h h') (b : closedV h.length v) : gc h v h' = .ok v (h'.take h.length) := if_pos ⟨a, b⟩
theorem gcX_eq {h : VH} {e : PX} {h' : VH} (a : gcOk h h') (b : closedF h.length e.fs) : gcX h e h' = .exc e (h'.take h.length) := if_pos ⟨a, b⟩
theorem gc_same {h : VH} {v : PV} (b : closedV h.length v) : gc h v h = .ok v h := by rw [gc_eq (gcOk_same h) b, List.take_length]
theorem gc_app {h j : VH} {v : PV} (b : closedV h.length v) : gc h v (h ++ j) = .ok v h := by rw [gc_eq (gcOk_app h j) b, List.take_left']; rfl
theorem gcX_same {h : VH} {e : PX} (b : closedF h.length e.fs) : gcX h e h = .exc e h := by rw [gcX_eq (gcOk_same h) b, List.take_length]
theorem gcX_app {h j : VH} {e : PX} (b : closedF h.length e.fs) : gcX h e (h ++ j) = .exc e h := by rw [gcX_eq (gcOk_app h j) b, List.take_left']; rfl
section
variable {K : Kc} {g g' : Gh} {h h' : VH} {H H' : Hp} {Q : VK} {E : XK} {v : PV}
theorem RelH.take (r0 : RelH K g h H) (l : g.le h.length g') (r : RelH K g' h' H') (hn : h.length ≤ h'.length) (q : gcOk h h') : RelH K g' (h'.take h.length) H' := by
  have at' : ∀ {i o}, (h'.take h.length)[i]? = some o → i < h.length ∧ h'[i]? = some o := fun {i o} e => by
    rw [List.getElem?_take] at e
    split at e
    · exact ⟨‹_›, e⟩
    · cases e
  have hl : (h'.take h.length).length = h.length := by rw [List.length_take]; omega
  refine ⟨r.same, fun i o e no => ?_, fun i o e no => r.sep i o (at' e).2 no, fun i j o p e no e' no' => r.inj i j o p (at' e).2 no (at' e').2 no', fun a o e => ⟨(r.fr a o e).1, (r.fr a o e).2.1, fun i p e' no => (r.fr a o e).2.2 i p (at' e').2 no⟩, fun a dd e z => ?_⟩
  rotate_left
  · obtain ⟨gs, e1, e2⟩ := r0.ex a dd e z
    exact ⟨gs, l.same _ _ e1, by rw [hl]; exact e2.mono l (Nat.le_refl _)⟩
  obtain ⟨hi, e⟩ := at' e
  obtain ⟨u, hu, ru⟩ := r.cell i o e no
  refine ⟨u, hu, ?_⟩
  rw [hl]
  refine repO_of_closed ru ?_
  rcases q i o hi e with e0 | c
  · obtain ⟨u0, _, ru0⟩ := r0.cell i o e0 no
    exact closedO_of_rep ru0
  · exact c
theorem Post.gc {P : Prop} (r0 : RelH K g h H) (p : Post K (Rep K) g h.length Q E (gc h v h')) :
    ∀ g' u H', g.le h.length g' → h.length ≤ h'.length → RelH K g' h' H' → Rep K g' h'.length v u → Q u H' := by
  intro g' u H' l hn rh rv
  unfold Pm.gc at p
  split at p
  · rename_i q
    have hl : (h'.take h.length).length = h.length := by rw [List.length_take]; omega
    exact p g' u H' l (by rw [hl]; exact Nat.le_refl _) (RelH.take r0 l rh hn q.1) (by rw [hl]; exact rep_of_closed rv q.2)
  · exact p g' u H' l hn rh rv
theorem Post.gcX {e : PX} (r0 : RelH K g h H) (p : Post K (Rep K) g h.length Q E (gcX h e h')) :
    ∀ g' cls d H', g.le h.length g' → h.length ≤ h'.length → RelH K g' h' H' → RepX K g' h'.length e cls d H' → E cls d H' := by
  intro g' cls d H' l hn rh rx
  unfold Pm.gcX at p
  split at p
  · rename_i q
    have hl : (h'.take h.length).length = h.length := by rw [List.length_take]; omega
    refine p g' cls d H' l (by rw [hl]; exact Nat.le_refl _) (RelH.take r0 l rh hn q.1) ?_
    obtain ⟨e1, dd, gs, e2, e3, r⟩ := rx
    exact ⟨e1, dd, gs, e2, e3, by rw [hl]; exact repF_of_closed r q.2⟩
  · exact p g' cls d H' l hn rh rx
end

/-! ### defs -/
noncomputable def fin (h : VH) : SR → Res PV
  | .nx _ h' => gc h .non h'
  | .rt v h' => gc h v h'
  | .xc e _ h' => gcX h e h'
  | _ => .bad
@[simp] theorem fin_nx (h h' : VH) (σ : LS) : fin h (.nx σ h') = gc h .non h' := (rfl)
@[simp] theorem fin_rt (h h' : VH) (v : PV) : fin h (.rt v h') = gc h v h' := (rfl)
@[simp] theorem fin_xc (h h' : VH) (e : PX) (σ : LS) : fin h (.xc e σ h') = gcX h e h' := (rfl)
@[simp] theorem fin_bad (h : VH) : fin h .bad = .bad := (rfl)
abbrev startL (n : Nat) (args : List PV) : LS := args.map some ++ List.replicate (n - args.length) none
noncomputable def fnRun (n : Nat) (m : SM) (args : List PV) (h : VH) : Res PV := fin h (m (startL n args) h)
theorem fnRun_eq (n : Nat) (m : SM) (args : List PV) (h : VH) : fnRun n m args h = fin h (m (startL n args) h) := rfl
def spOf (K : Kc) (n : Nat) (m : List PV → VH → Res PV) : Sp := fun vs H Q E => ∃ g h pvs, pvs.length = n ∧ Reps K g h.length pvs vs ∧ RelH K g h H ∧ Post K (Rep K) g h.length Q E (m pvs h)
abbrev WF (E : XK) : WX := fun cls d _ H => E cls d H
/-- a def's promise, at a place where no object is being shown (repr's guards) -/
structure FnG (P : Program) (w : World) (K : PySem.W.Frag) (mg : Str → Option Value) (base : Heap) (k : Nat) (f : Addr) (fd : FuncData) (ps : List Str) (sp : Sp) : Prop where
  len : ∀ vs H Q E, sp vs H Q E → vs.length = ps.length
  run : ∀ (A : Around) (outer : List Env) (s : Shared) (H : Hp) (args : Args) (us : List Value) (vs : List V) (Q : VK) (E : XK), Room k A → A.guards = some [] → Env0 P w K mg base A outer s H → BindsTo s fd args (ps.zip us) →
    Vals vs us → sp vs H Q E → codeAny (model P w) A (.call (.ref f) args) (CR (L2.CX P w) outer P w H s Q E) s
theorem FnG.mono {P : Program} {w : World} {K : PySem.W.Frag} {mg : Str → Option Value} {base : Heap} {f : Addr} {fd : FuncData} {ps : List Str} {sp : Sp} {j k : Nat} (F : FnG P w K mg base j f fd ps sp) (h : j ≤ k) : FnG P w K mg base k f fd ps sp :=
  ⟨F.len, fun A outer s H args us vs Q E room => F.run A outer s H args us vs Q E (room.mono h)⟩
theorem FnG.of {P : Program} {w : World} {K : PySem.W.Frag} {mg : Str → Option Value} {base : Heap} {x qual : Str} {st : Stmt} {f : Addr} {fd : FuncData} {N ps : List Str} {k : Nat} {sp : Sp} (F : Fun K x qual st f fd) (S : FnScope N ps (defScope st))
    (ln : ∀ vs H Q E, sp vs H Q E → vs.length = ps.length)
    (bd : ∀ (cdv : Value) (A : Around) (outer : List Env) (s : Shared) (H : Hp) (vs : List V) (Q : VK) (E : XK), Room k (A.deeper (envOfC qual (defScope st) s.heap.objs.size f cdv)) → (A.deeper (envOfC qual (defScope st) s.heap.objs.size f cdv)).guards = some [] → sp vs H Q E →
      ∃ t, PSs (cxOf (L2.CX P w) P w K mg base N qual (defScope st) f cdv A outer s H E) (defBody st) t ∧ t { nx := fun _ H' => Q .non H', rt := Q } (L2.start N vs) H) : FnG P w K mg base (k + 1) f fd ps sp := by
  obtain ⟨oc, od, kV, doc, pm, an, cdv, ct, osl, rfl, lk, code⟩ := F.ex
  refine ⟨ln, fun A outer s H args us vs Q E room gd env0 bnd rl hsp => ?_⟩
  have len0 := ln _ _ _ _ hsp
  have inK : K.In s.heap := env0.mod.kin.keeps fun b o e => (env0.bs b o e).1
  have noLim : s.heap.NoLimit := env0.mod.nolimit.keeps fun b o e => (env0.bs b o e).1
  have kinds : ∀ y ∈ ps.zip us, (defScope st).names.lookup y.1 = some .local ∨ ((defScope st).names.lookup y.1 = some .cell ∧ ((cellsFrom (s.heap.objs.size + 1) (defScope st).names []).lookup y.1).isSome = true) := by
    rintro ⟨n, v⟩ hy
    rcases S.par n (List.of_mem_zip hy).1 with q | q
    · exact .inl q
    · exact .inr ⟨q, PySem.W.cellsFrom_some _ _ _ (.inl q)⟩
  refine codeAny_call_function room.depth (inK _ _ lk) rfl S.co S.gen rfl (PySem.W.codeRec_of inK code) (bnd _ _ _ _ ?_)
  refine wpAny_newFunctionEnv_cells S.kind kinds fun env eqn s1 made => ?_
  subst eqn
  refine ⟨noLim.keeps made.toInCall.keep, codeAny_func ?_⟩
  obtain ⟨t, ht, goal⟩ := bd cdv A outer s H vs Q E (room.deeper _) gd hsp
  have I0 : Inv (cxOf (L2.CX P w) P w K mg base N qual (defScope st) f cdv A outer s H E) [] (L2.start N vs) H s1 := inv_start S room.hd env0 len0 rl made
  refine wpAny_mono (ht.run [] s1 (L2.start N vs) H _ I0 goal) (fun fl s' out => ?_) fun e s' out => out
  have back : ∀ {τ' : L2.St} {H' : Hp} {v : V} {u : Value}, Inv (cxOf (L2.CX P w) P w K mg base N qual (defScope st) f cdv A outer s H E) [] τ' H' s' → RelV v u → Q v H' → CE outer P w H s Q u s' := by
    intro τ' H' v u J rv q
    exact ⟨v, H', J.os, J.bare, J.base, J.hok, rv, q⟩
  cases fl with
  | ret u =>
    obtain ⟨v, τ', H', J, rv, q⟩ := out
    exact back J rv q
  | next =>
    obtain ⟨τ', H', J, q⟩ := out
    exact back (v := V.non) (u := Value.none) J rfl q
  | brk =>
    obtain ⟨_, _, _, q⟩ := out
    exact q.elim
  | cont =>
    obtain ⟨_, _, _, q⟩ := out
    exact q.elim
structure FnS (c : Ck) (P : Program) (w : World) (K : PySem.W.Frag) (mg : Str → Option Value) (base : Heap) (k : Nat) (f : Addr) (fd : FuncData) (ps : List Str) (m : List PV → VH → Res PV) : Prop where
  ok : FnG P w K mg base k f fd ps (spOf ⟨K, c⟩ ps.length m)
theorem Reps.start {K : Kc} {g : Gh} {n : Nat} {pvs : List PV} {vs : List V} (r : Reps K g n pvs vs) (N : List Str) : RelS K g n (startL N.length pvs) (L2.start N vs) := by
  have hl := r.length
  refine ⟨by unfold L2.start; simp [hl], fun i v e => ?_⟩
  unfold startL at e
  by_cases hi : i < pvs.length
  · rw [List.getElem?_append_left (by simpa using hi), List.getElem?_map] at e
    obtain ⟨x, ex, e'⟩ : ∃ x, pvs[i]? = some x ∧ x = v := by
      cases q : pvs[i]? with
      | none => rw [q] at e; simp at e
      | some x => rw [q] at e; simp at e; exact ⟨x, rfl, e⟩
    subst e'
    obtain ⟨u, eu, ru⟩ := r.get ex
    refine ⟨u, ?_, ru⟩
    unfold L2.start
    rw [List.getElem?_append_left (by simpa [hl] using hi), List.getElem?_map, eu]
    rfl
  · rw [List.getElem?_append_right (by simpa using hi)] at e
    simp only [List.getElem?_replicate] at e
    split at e <;> cases e
section
variable {c : Ck} {P : Program} {w : World} {K : PySem.W.Frag} {mg : Str → Option Value} {base : Heap}
theorem FnS.of {x qual : Str} {st : Stmt} {f : Addr} {fd : FuncData} {N ps : List Str} {k : Nat} {m : SM} (F : Fun K x qual st f fd) (S : FnScope N ps (defScope st))
    (body : ∀ (cdv : Value) (A : Around) (outer : List Env) (s : Shared) (H : Hp) (E : XK), Room k (A.deeper (envOfC qual (defScope st) s.heap.objs.size f cdv)) → (A.deeper (envOfC qual (defScope st) s.heap.objs.size f cdv)).guards = some [] →
      SS c (cxOf (L2.CX P w) P w K mg base N qual (defScope st) f cdv A outer s H E) (WF E) (defBody st) m) : FnS c P w K mg base (k + 1) f fd ps (fnRun N.length m) := by
  refine ⟨FnG.of F S (fun vs H Q E h => ?_) (fun cdv A outer s H vs Q E hr hgd h => ?_)⟩
  · obtain ⟨g, hp, pvs, e, r, _⟩ := h
    rw [← e, r.length]
  · obtain ⟨g, hp, pvs, e, r, rh, p⟩ := h
    obtain ⟨t, ht, s1⟩ := body cdv A outer s H E hr hgd
    refine ⟨t, ht, s1 g (startL N.length pvs) hp (L2.start N vs) H _ (r.start N) rh ?_⟩
    unfold fnRun at p
    generalize m (startL N.length pvs) hp = res at p ⊢
    cases res with
    | nx σ h' => exact fun g' τ H' l hn rh' rs => Post.gc (P := True) rh p g' _ H' l hn rh' (by simp only [Rep])
    | rt v h' => exact fun g' u H' l hn rh' rv => Post.gc (P := True) rh p g' u H' l hn rh' rv
    | xc e σ h' => exact fun g' cls d τ H' l hn rh' rs rx => Post.gcX rh p g' cls d H' l hn rh' rx
    | bk σ h' => exact p.elim
    | ct σ h' => exact p.elim
    | bad => exact p
theorem FnS.mono {f : Addr} {fd : FuncData} {ps : List Str} {j k : Nat} {m : List PV → VH → Res PV} (F : FnS c P w K mg base j f fd ps m) (h : j ≤ k) : FnS c P w K mg base k f fd ps m := ⟨F.ok.mono h⟩
end

/-! ### calls of defs -/
section
variable {c : Ck} {X : Cx} {W : WX} {k : Nat} {f C : Addr} {fd : FuncData} {ps : List Str} {m : List PV → VH → Res PV} {x mn : Str} {p pos apos : Pos} {e o : Expr} {es : List Expr} {ms : AM} {mo : EM}
theorem run_fnG {sp : Sp} {E : XK} {pins : List (Addr × Obj)} {τ : L2.St} {H : Hp} {s : Shared} {Q : VK} {us : List Value} {vs : List V} (F : FnG X.prog X.w X.K X.mg X.base k f fd ps sp) (room : Room k X.A) (gd : X.A.guards = some []) (bi : Binds X.K fd ps [])
    (px : PassesAt (L2.CX X.prog X.w) X τ E) (I : Inv X pins τ H s) (r : Vals vs us) (h : sp vs H Q E) : wpAny (model X.prog X.w) X.A (call (.ref f) us) (EP X pins τ Q) X.xe s := by
  have ln : us.length = ps.length := by rw [← r.length]; exact F.len _ _ _ _ h
  have b := bi s us I.kIn (by rw [List.append_nil]; exact ln)
  rw [List.append_nil] at b
  refine wpAny_call (codeAny_mono (F.run X.A X.stack s H ⟨us, []⟩ us vs Q E room gd I.env0 b r h) fun res s' hq => ?_)
  cases res with
  | error e => exact px pins H s e s' I hq
  | ok fl =>
    cases fl with
    | ret u => exact I.after hq
    | next => exact hq.elim
    | brk => exact hq.elim
    | cont => exact hq.elim
theorem pe_callG {sp : Sp} {E : L2.St → XK} {t : TA} (F : FnG X.prog X.w X.K X.mg X.base k f fd ps sp) (room : Room k X.A) (gd : X.A.guards = some []) (hg : Gl X x) (hm : X.mg x = some (.ref f)) (hk : PySem.W.keepIn X.K (.ref f) = true) (bi : Binds X.K fd ps [])
    (px : ∀ τ, PassesAt (L2.CX X.prog X.w) X τ (E τ)) (pa : PA X (e :: es) t) (hdb : (x == ("__debug__" : Str)) = false) (st : starEach (e :: es) X.env = (false, eval e X.env) :: starEach es X.env) (pl : (backTo pos (starEach es X.env)).any (·.1) = false) :
    PE X (.Call (.Name x p) (e :: es) [] pos) (tCallS sp E t) := by
  refine ⟨fun pins s τ H Q I h => wpAny_Call_Name_kw (ld_glob I hg hm ?_ hdb)⟩
  exact PySem.W.callWith_K (h₀ := X.base) I.ok.mod.kin hk (thn (pa.run pos pins s τ H _ I h) fun us s1 ⟨vs, H1, I1, r, q⟩ => ⟨I1.kIn, run_fnG F room gd bi (px τ) I1 r q⟩) st pl
theorem args_sp {K : Kc} {t : TA} {τ : L2.St} {g : Gh} {h : VH} {H : Hp} {Q : VK} {E : XK} {n : Nat} {r : Res (List PV)} (s : ∀ Q, Post K (Reps K) g h.length Q E r → t τ H Q)
    (hl : ∀ xs h', r = .ok xs h' → xs.length = n) (q : Post K (Rep K) g h.length Q E (r.bind m)) : t τ H fun vs H1 => spOf K n m vs H1 Q E := by
  refine s _ ?_
  cases r with
  | ok xs h' =>
    intro g' us H' l hn rh' ru
    exact ⟨g', h', xs, hl _ _ rfl, ru, rh', Post.up q l hn⟩
  | exc e' h' => exact q
  | bad => exact q
theorem SE.call (F : FnS c X.prog X.w X.K X.mg X.base k f fd ps m) (hr : Room k X.A) (hgd : X.A.guards = some []) (hg : Gl X x) (hm : X.mg x = some (.ref f)) (hk : PySem.W.keepIn X.K (.ref f) = true) (hb : Binds X.K fd ps []) (tk : Takes X W) (ha : SA c X W (e :: es) ms)
    (hn : (e :: es).length = ps.length := by rfl) (hdb : (x == ("__debug__" : Str)) = false := by decide) (he : starEach (e :: es) X.env = (false, eval e X.env) :: starEach es X.env := by rfl) (hpl : (backTo pos (starEach es X.env)).any (·.1) = false := by rfl) :
    SE c X W (.Call (.Name x p) (e :: es) [] pos) (eCall m ms) := by
  obtain ⟨la, t, pa, s⟩ := ha
  exact ⟨_, pe_callG F.ok hr hgd hg hm hk hb (fun σ => passAt tk σ) pa hdb he hpl, fun g σ h τ H Q rs rh q => args_sp (fun Q z => s g σ h τ H Q rs rh z) (fun xs h' z => (la σ h xs h' z).trans hn) q⟩
theorem SE.call0 (F : FnS c X.prog X.w X.K X.mg X.base k f fd [] m) (hr : Room k X.A) (hgd : X.A.guards = some []) (hg : Gl X x) (hm : X.mg x = some (.ref f)) (hk : PySem.W.keepIn X.K (.ref f) = true) (hb : Binds X.K fd [] []) (tk : Takes X W)
    (hdb : (x == ("__debug__" : Str)) = false := by decide) : SE c X W (.Call (.Name x p) [] [] pos) (fun _ h => m [] h) := by
  refine ⟨fun τ H Q => spOf (kx c X) 0 m [] H Q (WE W τ), ⟨fun pins s τ H Q I h => ?_⟩, fun g σ h τ H Q rs rh q => ⟨g, h, [], rfl, Reps.nil, rh, q⟩⟩
  exact wpAny_Call_Name_kw (ld_glob I hg hm (PySem.W.callWith_K0 I.kIn hk (run_fnG (us := []) F.ok hr hgd hb (passAt tk τ) I .nil h)) hdb)

/-! ### instances -/
/-- the class and the attributes of an instance -/
def insAt : PV → VH → Option (Nat × List (Str × PV))
  | .ins C fs, _ => some (C, fs)
  | .ref i, h => match h[i]? with
    | some (.ins C fs) => some (C, fs)
    | _ => none
  | _, _ => none
@[simp] theorem insAt_ins (C : Nat) (fs : List (Str × PV)) (h : VH) : insAt (.ins C fs) h = some (C, fs) := (rfl)
theorem insAt_ref {i C : Nat} {fs : List (Str × PV)} {h : VH} (e : h[i]? = some (.ins C fs)) : insAt (.ref i) h = some (C, fs) := by simp [insAt, e]
theorem insAt_run {K : Kc} {g : Gh} {h : VH} {H : Hp} {x : PV} {u : V} {C : Nat} {fs : List (Str × PV)} (rx : Rep K g h.length x u) (rh : RelH K g h H) (e : insAt x h = some (C, fs)) :
    ∃ a dx gs, u = .ref a ∧ H a = some (.ins (K.cls C) dx gs) ∧ RepF K g h.length fs gs := by
  cases x with
  | ins D fs' =>
    cases e
    simp only [Rep] at rx
    obtain ⟨a, dx, gs, rfl, s, r⟩ := rx
    exact ⟨a, dx, gs, rfl, rh.same _ _ s, r⟩
  | ref i =>
    simp only [Rep] at rx
    have e : (match h[i]? with
      | some (PO.ins C fs) => some (C, fs)
      | _ => none) = some (C, fs) := e
    split at e
    · rename_i D fs' e1
      cases e
      obtain ⟨u', hu, ru⟩ := rh.cell i _ e1 (by intro z; cases z)
      obtain ⟨dx, gs, rfl, r⟩ := ru
      exact ⟨_, dx, gs, rx.2, hu, r⟩
    · cases e
  | _ => cases e
/-- e.f of an instance of class C -/
def fldP (C : Nat) (f : Str) (x : PV) (h : VH) : Res PV := match insAt x h with
  | some (D, fs) => if D = C then (match fs.lookup f with
    | some v => .ok v h
    | none => .bad) else .bad
  | none => .bad
def eFld (C : Nat) (f : Str) (m : EM) : EM := fun σ h => (m σ h).bind (fldP C f)
theorem SE.fld {Cn : Nat} {fl : Str} (he : SE c X W e mo) (cl : Cls X.K (c Cn)) (na : NoAttr X.K (c Cn) fl) (hb : attributeBase e fl X.env (eval e X.env) = eval e X.env := by rfl) : SE c X W (.Attribute e fl pos) (eFld Cn fl mo) := by
  obtain ⟨t, p, s⟩ := he
  refine ⟨_, pe_fld p hb, fun g σ h τ H Q rs rh q => ?_⟩
  refine s g σ h τ H _ rs rh ((Post.bind q).imp (fun u H1 ⟨g1, x, h1, m1, q1⟩ => ?_) fun _ _ _ z => z)
  unfold fldP at q1
  split at q1
  · rename_i D fs e1
    split at q1
    · rename_i e2
      subst e2
      split at q1
      · rename_i v e3
        obtain ⟨a, dx, gs, rfl, hu, r⟩ := insAt_run m1.rep m1.rel e1
        obtain ⟨w', e4, r4⟩ := (RepF.lookup (f := fl) r).1 v e3
        exact ⟨a, _, dx, gs, w', rfl, hu, cl, na, e4, const_run m1.rel r4 q1⟩
      · exact q1.elim
    · exact q1.elim
  · exact q1.elim
/-- a method of class C called: the receiver ahead of the arguments -/
def methP (C : Nat) (mn : Str) (ms : AM) (m : List PV → VH → Res PV) (σ : LS) (x : PV) (h : VH) : Res PV := match insAt x h with
  | some (D, fs) => if D = C ∧ fs.lookup mn = none then (ms σ h).bind fun xs h2 => m (x :: xs) h2 else .bad
  | none => .bad
def eMeth (C : Nat) (mn : Str) (m : List PV → VH → Res PV) (mo : EM) (ms : AM) : EM := fun σ h => (mo σ h).bind (methP C mn ms m σ)
def tMethS (C : Addr) (mn : Str) (sp : Sp) (E : L2.St → XK) (ta : TE) (t : TA) : TE := fun τ H Q => ta τ H fun x H1 => ∃ a dx fs, x = .ref a ∧ H1 a = some (.ins C dx fs) ∧ fs.lookup mn = none ∧ t τ H1 fun vs H2 => sp (x :: vs) H2 Q (E τ)
theorem pe_methW {sp : Sp} {E : L2.St → XK} {ta : TE} {t : TA} {pl : Sem Bool} (po : PE X o ta) (cl : Cls X.K C) (me : Meth X.K C mn f) (F : FnG X.prog X.w X.K X.mg X.base k f fd ps sp) (room : Room k X.A) (gd : X.A.guards = some []) (bi : Binds X.K fd ps []) (px : ∀ τ, PassesAt (L2.CX X.prog X.w) X τ (E τ)) (pa : PA X (e :: es) t)
    (st : starEach (e :: es) X.env = (false, eval e X.env) :: starEach es X.env) (pl' : (backTo pos (starEach es X.env)).any (·.1) = false)
    (tree : eval (.Call (.Attribute o mn apos) (e :: es) [] pos) X.env = (do
      let recv ← eval o X.env
      standAt apos.atName
      let (fn, head) ← holding [recv] (getMethod recv mn pl)
      callWith pos fn head (backTo pos (starEach (e :: es) X.env)) (backToKw pos (keywordEach [] X.env)))) : PE X (.Call (.Attribute o mn apos) (e :: es) [] pos) (tMethS C mn sp E ta t) := by
  refine ⟨fun pins s τ H Q I h => ?_⟩
  refine PySem.W.methodCall_KW (pl := pl) (thn (po.run pins s τ H _ I h) fun u s1 ⟨x, H1, I1, rx, a, dx, fs, ex, ea, nl, q⟩ => ?_) tree
  subst ex
  cases rx
  refine getmeth_ok I1 ea cl me nl ?_
  refine PySem.W.callWith_K (first := [.ref a]) (h₀ := X.base) I.ok.mod.kin me.kp (thn (pa.run pos pins s1 τ H1 _ I1 q) fun us s2 ⟨vs, H2, I2, r, q2⟩ => ⟨I2.kIn, ?_⟩) st pl'
  exact run_fnG (us := .ref a :: us) (vs := .ref a :: vs) F room gd bi (px τ) I2 (.cons rfl r) q2
theorem pe_methW0 {sp : Sp} {E : L2.St → XK} {ta : TE} {pl : Sem Bool} (po : PE X o ta) (cl : Cls X.K C) (me : Meth X.K C mn f) (F : FnG X.prog X.w X.K X.mg X.base k f fd ps sp) (room : Room k X.A) (gd : X.A.guards = some []) (bi : Binds X.K fd ps []) (px : ∀ τ, PassesAt (L2.CX X.prog X.w) X τ (E τ))
    (tree : eval (.Call (.Attribute o mn apos) [] [] pos) X.env = (do
      let recv ← eval o X.env
      standAt apos.atName
      let (fn, head) ← holding [recv] (getMethod recv mn pl)
      callWith pos fn head (backTo pos (starEach [] X.env)) (backToKw pos (keywordEach [] X.env)))) : PE X (.Call (.Attribute o mn apos) [] [] pos) (tMethS C mn sp E ta tNil) := by
  refine ⟨fun pins s τ H Q I h => ?_⟩
  refine PySem.W.methodCall_KW (pl := pl) (thn (po.run pins s τ H _ I h) fun u s1 ⟨x, H1, I1, rx, a, dx, fs, ex, ea, nl, q⟩ => ?_) tree
  subst ex
  cases rx
  refine getmeth_ok I1 ea cl me nl ?_
  exact PySem.W.callWith_K0 (first := [.ref a]) I1.kIn me.kp (run_fnG (us := [.ref a]) (vs := [.ref a]) F room gd bi (px τ) I1 (.cons rfl .nil) q)
theorem meth_run {Cn : Nat} {t : TA} {ta : TE} (sl : ∀ σ h xs h', ms σ h = .ok xs h' → (xs.length + 1) = ps.length)
    (so : ∀ g σ h τ H Q, RelS (kx c X) g h.length σ τ → RelH (kx c X) g h H → Post (kx c X) (Rep (kx c X)) g h.length Q (at_ W τ) (mo σ h) → ta τ H Q)
    (sa : ∀ g σ h τ H Q, RelS (kx c X) g h.length σ τ → RelH (kx c X) g h H → Post (kx c X) (Reps (kx c X)) g h.length Q (at_ W τ) (ms σ h) → t τ H Q)
    (g : Gh) (σ : LS) (h : VH) (τ : L2.St) (H : Hp) (Q : VK) (rs : RelS (kx c X) g h.length σ τ) (rh : RelH (kx c X) g h H) (q : Post (kx c X) (Rep (kx c X)) g h.length Q (at_ W τ) (eMeth Cn mn m mo ms σ h)) :
    tMethS (c Cn) mn (spOf (kx c X) ps.length m) (WE W) ta t τ H Q := by
  refine so g σ h τ H _ rs rh ((Post.bind q).imp (fun u H1 ⟨g1, x, h1, m1, q1⟩ => ?_) fun _ _ _ z => z)
  unfold methP at q1
  split at q1
  · rename_i D fs e1
    split at q1
    · rename_i e2
      obtain ⟨rfl, e3⟩ := e2
      obtain ⟨a, dx, gs, rfl, hu, r⟩ := insAt_run m1.rep m1.rel e1
      refine ⟨a, dx, gs, rfl, hu, (RepF.lookup (f := mn) r).2 e3, ?_⟩
      refine sa g1 σ h1 τ H1 _ (rs.mono m1.le m1.len) m1.rel ?_
      have ln := fun xs h' => sl σ h1 xs h'
      generalize ms σ h1 = res at q1 ln
      cases res with
      | ok xs h' => exact fun g' us H' l hn rh' ru => ⟨g', h', x :: xs, ln xs h' rfl, Reps.cons (m1.rep.mono l hn) ru, rh', Post.up q1 l hn⟩
      | exc e' h' => exact q1
      | bad => exact q1
    · exact q1.elim
  · exact q1.elim
theorem SE.meth {Cn : Nat} {pl : Sem Bool} (ho : SE c X W o mo) (cl : Cls X.K (c Cn)) (me : Meth X.K (c Cn) mn f) (F : FnS c X.prog X.w X.K X.mg X.base k f fd ps m) (hr : Room k X.A) (hgd : X.A.guards = some []) (hb : Binds X.K fd ps []) (tk : Takes X W) (ha : SA c X W (e :: es) ms)
    (hn : (e :: es).length + 1 = ps.length := by rfl) (st : starEach (e :: es) X.env = (false, eval e X.env) :: starEach es X.env := by rfl) (pl' : (backTo pos (starEach es X.env)).any (·.1) = false := by rfl)
    (tree : eval (.Call (.Attribute o mn apos) (e :: es) [] pos) X.env = (do
      let recv ← eval o X.env
      standAt apos.atName
      let (fn, head) ← holding [recv] (getMethod recv mn pl)
      callWith pos fn head (backTo pos (starEach (e :: es) X.env)) (backToKw pos (keywordEach [] X.env))) := by rfl) : SE c X W (.Call (.Attribute o mn apos) (e :: es) [] pos) (eMeth Cn mn m mo ms) := by
  obtain ⟨to, po, so⟩ := ho
  obtain ⟨la, t, pa, s⟩ := ha
  exact ⟨_, pe_methW po cl me F.ok hr hgd hb (fun τ => passAt tk τ) pa st pl' tree, meth_run (fun σ h xs h' z => by rw [la σ h xs h' z]; exact hn) so s⟩
theorem SE.meth0 {Cn : Nat} {pl : Sem Bool} (ho : SE c X W o mo) (cl : Cls X.K (c Cn)) (me : Meth X.K (c Cn) mn f) (F : FnS c X.prog X.w X.K X.mg X.base k f fd ps m) (hr : Room k X.A) (hgd : X.A.guards = some []) (hb : Binds X.K fd ps []) (tk : Takes X W) (hn : 1 = ps.length := by rfl)
    (tree : eval (.Call (.Attribute o mn apos) [] [] pos) X.env = (do
      let recv ← eval o X.env
      standAt apos.atName
      let (fn, head) ← holding [recv] (getMethod recv mn pl)
      callWith pos fn head (backTo pos (starEach [] X.env)) (backToKw pos (keywordEach [] X.env))) := by rfl) : SE c X W (.Call (.Attribute o mn apos) [] [] pos) (eMeth Cn mn m mo aNil) := by
  obtain ⟨to, po, so⟩ := ho
  obtain ⟨la, t, pa, s⟩ := SA.nil (c := c) (X := X) (W := W)
  refine ⟨_, pe_methW0 po cl me F.ok hr hgd hb (fun τ => passAt tk τ) tree, meth_run (t := tNil) (fun σ h xs h' z => by cases z; exact hn) so fun g σ h τ H Q rs rh q => q g [] H (Gh.le.refl _ _) (Nat.le_refl _) rh Reps.nil⟩

/-! ### instances made -/
def tMakeS (C : Addr) (sp : Sp) (E : L2.St → XK) (t : TA) : TE := fun τ H Q => t τ H fun vs H1 => ∀ x dx, H1 x = none → H1 dx = none → dx ≠ x → sp (.ref x :: vs) (upd (upd H1 dx (.own x)) x (.ins C dx [])) (fun v H2 => v = .non ∧ Q (.ref x) H2) (E τ)
theorem make_guards {A : Around} {us : List Value} {kw : List (Str × Value)} : (A.under (.builtin "type.__call__" ⟨.ref C :: us, kw⟩)).guards = A.guards := by
  have e : (Code.builtin "type.__call__" ⟨.ref C :: us, kw⟩).guards = [] := by simp [Code.guards, Code.isGuard, guardIds]
  simp only [Around.under, e]
  cases A.guards <;> rfl
theorem run_makeW {sp : Sp} {E : XK} {pins : List (Addr × Obj)} {τ : L2.St} {H : Hp} {s : Shared} {Q : VK} {us : List Value} {vs : List V} (mk : Mk X.K C f) (F : FnG X.prog X.w X.K X.mg X.base k f fd ps sp) (room : Room (k + 1) X.A) (gd : X.A.guards = some []) (bi : Binds X.K fd ps [])
    (px : PassesAt (L2.CX X.prog X.w) X τ E) (I : Inv X pins τ H s) (r : Vals vs us) (h : ∀ x dx, H x = none → H dx = none → dx ≠ x → sp (.ref x :: vs) (upd (upd H dx (.own x)) x (.ins C dx [])) (fun v H2 => v = .non ∧ Q (.ref x) H2) E) :
    wpAny (model X.prog X.w) X.A (call (.ref C) us) (EP X pins τ Q) X.xe s := by
  have q0 := h (s.heap.objs.size + 1) s.heap.objs.size (I.hok.fresh (Nat.le_succ _)) (I.hok.fresh (Nat.le_refl _)) (Nat.ne_of_lt (Nat.lt_succ_self _))
  have J := Inv.made (C := C) I
  have rr : Vals (V.ref (s.heap.objs.size + 1) :: vs) (Value.ref (s.heap.objs.size + 1) :: us) := .cons rfl r
  have ln : (Value.ref (s.heap.objs.size + 1) :: us).length = ps.length := by rw [← rr.length]; exact F.len _ _ _ _ q0
  have b := bi _ (Value.ref (s.heap.objs.size + 1) :: us) J.kIn (by rw [List.append_nil]; exact ln)
  rw [List.append_nil] at b
  refine wpAny_call (make_map (f := f) I.kIn mk.makes mk.init (beq_iff_eq.mp mk.fn) (codeAny_mono (F.run _ X.stack _ _ ⟨Value.ref (s.heap.objs.size + 1) :: us, []⟩ _ _ _ E (room.make C us []) (make_guards.trans gd) (J.env0.make C us []) b rr q0) fun res s' hq => ?_))
  cases res with
  | error e => exact px pins _ _ e s' J hq
  | ok fl =>
    cases fl with
    | ret u =>
      obtain ⟨v, H', I3, rv, ev, q3⟩ := J.after hq
      subst ev
      exact ⟨rv, V.ref (s.heap.objs.size + 1), H', I3, rfl, q3⟩
    | next => exact hq.elim
    | brk => exact hq.elim
    | cont => exact hq.elim
theorem pe_makeW {sp : Sp} {E : L2.St → XK} {t : TA} (mk : Mk X.K C f) (F : FnG X.prog X.w X.K X.mg X.base k f fd ps sp) (room : Room (k + 1) X.A) (gd : X.A.guards = some []) (hg : Gl X x) (hm : X.mg x = some (.ref C)) (bi : Binds X.K fd ps []) (px : ∀ τ, PassesAt (L2.CX X.prog X.w) X τ (E τ)) (pa : PA X (e :: es) t)
    (hdb : (x == ("__debug__" : Str)) = false) (st : starEach (e :: es) X.env = (false, eval e X.env) :: starEach es X.env) (pl' : (backTo pos (starEach es X.env)).any (·.1) = false) : PE X (.Call (.Name x p) (e :: es) [] pos) (tMakeS C sp E t) := by
  refine ⟨fun pins s τ H Q I h => wpAny_Call_Name_kw (ld_glob I hg hm ?_ hdb)⟩
  exact PySem.W.callWith_K (h₀ := X.base) I.ok.mod.kin mk.kp (thn (pa.run pos pins s τ H _ I h) fun us s1 ⟨vs, H1, I1, r, q⟩ => ⟨I1.kIn, run_makeW mk F room gd bi (px τ) I1 r q⟩) st pl'
/-- C(..): a new cell, then __init__ -/
def makeP (C : Nat) (m : List PV → VH → Res PV) (xs : List PV) (h : VH) : Res PV := (m (.ref h.length :: xs) (h ++ [.ins C []])).bind fun v h2 => match v with
  | .non => .ok (.ref h.length) h2
  | _ => .bad
def eMake (C : Nat) (m : List PV → VH → Res PV) (ms : AM) : EM := eCall (makeP C m) ms
/-- a new object in a new cell -/
theorem RelH.push {K : Kc} {g : Gh} {h : VH} {H H' : Hp} {a : Addr} {o : PO} {u : HO} (r : RelH K g h H) (hs : Same H H') (na : H a = none) (hu : H' a = some u) (ro : RepO K { g with ρ := fun i => if i = h.length then a else g.ρ i } (h.length + 1) o u) :
    g.le h.length { g with ρ := fun i => if i = h.length then a else g.ρ i } ∧ RelH K { g with ρ := fun i => if i = h.length then a else g.ρ i } (h ++ [o]) H' := by
  have le : g.le h.length { g with ρ := fun i => if i = h.length then a else g.ρ i } := ⟨Same.refl _, fun i hi => if_neg (Nat.ne_of_lt hi), rfl⟩
  have ρe : ∀ {i}, i < h.length → (if i = h.length then a else g.ρ i) = g.ρ i := fun hi => if_neg (Nat.ne_of_lt hi)
  have old : ∀ {i p}, (h ++ [o])[i]? = some p → (i < h.length ∧ h[i]? = some p) ∨ (i = h.length ∧ p = o) := fun {i p} e => by
    by_cases hi : i < h.length
    · rw [List.getElem?_append_left hi] at e; exact .inl ⟨hi, e⟩
    · rw [List.getElem?_append_right (by omega)] at e
      have : i - h.length = 0 := by
        cases q : i - h.length with
        | zero => rfl
        | succ k => rw [q] at e; simp at e
      rw [this] at e
      exact .inr ⟨by omega, by simpa using e.symm⟩
  have ne : ∀ {i p}, h[i]? = some p → p ≠ .dead → g.ρ i ≠ a := fun {i p} e d z => by
    obtain ⟨u', hu', _⟩ := r.cell i p e d
    rw [z, na] at hu'; cases hu'
  refine ⟨le, fun b w e => hs b w (r.same b w e), fun i p e d => ?_, fun i p e d => ?_, fun i j p q e d e' d' z => ?_, fun b w e => ⟨hs _ _ (r.fr b w e).1, (r.fr b w e).2.1, fun i p e' d => ?_⟩, fun a2 dd e2 z => ?_⟩
  · rcases old e with ⟨hi, e⟩ | ⟨rfl, rfl⟩
    · obtain ⟨u', hu', ru⟩ := r.cell i p e d
      refine ⟨u', ?_, ?_⟩
      · show H' (if i = h.length then a else g.ρ i) = _
        rw [ρe hi]; exact hs _ _ hu'
      · rw [List.length_append]; exact ru.mono le (Nat.le_add_right _ _)
    · refine ⟨u, ?_, by rw [List.length_append]; exact ro⟩
      show H' (if h.length = h.length then a else _) = _
      rw [if_pos rfl]; exact hu
  · show g.Hf (if i = h.length then a else g.ρ i) = none
    rcases old e with ⟨hi, e⟩ | ⟨rfl, rfl⟩
    · rw [ρe hi]; exact r.sep i p e d
    · rw [if_pos rfl]; exact r.same.free na
  · have z : (if i = h.length then a else g.ρ i) = (if j = h.length then a else g.ρ j) := z
    rcases old e with ⟨hi, e1⟩ | ⟨ei, eo⟩
    · rcases old e' with ⟨hj, e2⟩ | ⟨ej, eo'⟩
      · rw [ρe hi, ρe hj] at z; exact r.inj i j p q e1 d e2 d' z
      · rw [ρe hi, if_pos ej] at z; exact absurd z (ne e1 d)
    · rcases old e' with ⟨hj, e2⟩ | ⟨ej, eo'⟩
      · rw [ρe hj, if_pos ei] at z; exact absurd z.symm (ne e2 d')
      · rw [ei, ej]
  · show (if i = h.length then a else g.ρ i) ≠ b
    rcases old e' with ⟨hi, e1⟩ | ⟨ei, eo⟩
    · rw [ρe hi]; exact (r.fr b w e).2.2 i p e1 d
    · rw [if_pos ei]; exact fun z => by have := (r.fr b w e).1; rw [← z, na] at this; cases this
  · obtain ⟨gs, e3, e4⟩ := r.ex a2 dd e2 z
    exact ⟨gs, e3, by rw [List.length_append]; exact e4.mono le (Nat.le_add_right _ _)⟩
theorem SE.make {Cn : Nat} (mk : Mk X.K (c Cn) f) (F : FnS c X.prog X.w X.K X.mg X.base k f fd ps m) (hr : Room (k + 1) X.A) (hgd : X.A.guards = some []) (hg : Gl X x) (hm : X.mg x = some (.ref (c Cn))) (hb : Binds X.K fd ps []) (tk : Takes X W) (ha : SA c X W (e :: es) ms)
    (hn : (e :: es).length + 1 = ps.length := by rfl) (hdb : (x == ("__debug__" : Str)) = false := by decide) (st : starEach (e :: es) X.env = (false, eval e X.env) :: starEach es X.env := by rfl) (pl' : (backTo pos (starEach es X.env)).any (·.1) = false := by rfl) :
    SE c X W (.Call (.Name x p) (e :: es) [] pos) (eMake Cn m ms) := by
  obtain ⟨la, t, pa, s⟩ := ha
  refine ⟨_, pe_makeW mk F.ok hr hgd hg hm hb (fun τ => passAt tk τ) pa hdb st pl', fun g σ h τ H Q rs rh q => ?_⟩
  refine s g σ h τ H _ rs rh ?_
  have ln := fun xs h' => la σ h xs h'
  dsimp only [eMake, eCall] at q
  generalize ms σ h = res at q ln
  cases res with
  | ok xs h' =>
    intro g1 us H1 l hn1 rh1 ru x dx nx ndx ne
    have q1 := Post.up q l hn1
    have sm : Same H1 (upd (upd H1 dx (.own x)) x (.ins (c Cn) dx [])) := fun b o e => by
      rw [upd_ne (ne_of_none e nx), upd_ne (ne_of_none e ndx)]; exact e
    obtain ⟨l2, rh2⟩ := RelH.push (o := .ins Cn []) rh1 sm nx upd_same ⟨dx, [], rfl, RepF.nil⟩
    have hl2 : (h' ++ [PO.ins Cn []]).length = h'.length + 1 := by simp
    refine ⟨_, _, .ref h'.length :: xs, by rw [List.length_cons, ln xs h' rfl]; exact hn, Reps.cons ?_ (ru.mono l2 (by rw [hl2]; exact Nat.le_succ _)), rh2, ?_⟩
    · simp only [Rep]
      exact ⟨by rw [hl2]; exact Nat.lt_succ_self _, by simp⟩
    · unfold makeP at q1
      rw [Res.bind_ok] at q1
      have q2 := Post.up q1 l2 (show h'.length ≤ (h' ++ [PO.ins Cn []]).length by rw [hl2]; exact Nat.le_succ _)
      generalize m (.ref h'.length :: xs) (h' ++ [PO.ins Cn []]) = r2 at q2
      cases r2 with
      | ok v h2 =>
        cases v with
        | non =>
          intro g3 u3 H3 l3 hn3 rh3 r3
          simp only [Rep] at r3
          refine ⟨r3, q2 g3 _ H3 l3 hn3 rh3 ?_⟩
          simp only [Rep]
          rw [hl2] at hn3
          refine ⟨by omega, ?_⟩
          rw [l3.rho h'.length (by rw [hl2]; exact Nat.lt_succ_self _)]
          simp
        | _ => exact q2.elim
      | exc e h2 => exact q2
      | bad => exact q2.elim
  | exc e' h' => exact q
  | bad => exact q
end
end Pm
namespace Pm
open PySem PySem.Spec L2 PyProof.Rows

/-! ### lists and tuples read -/
/-- the items of a list -/
def lstOf : PV → VH → Option (List PV)
  | .lst xs, _ => some xs
  | .scr xs, _ => some xs
  | .ref i, h => match h[i]? with
    | some (.lst xs) => some xs
    | _ => none
  | _, _ => none
@[simp] theorem lstOf_scr (xs : List PV) (h : VH) : lstOf (.scr xs) h = some xs := (rfl)
@[simp] theorem lstOf_lst (xs : List PV) (h : VH) : lstOf (.lst xs) h = some xs := (rfl)
theorem lstOf_ref {i : Nat} {xs : List PV} {h : VH} (e : h[i]? = some (.lst xs)) : lstOf (.ref i) h = some xs := by simp [lstOf, e]
theorem lstOf_run {K : Kc} {g : Gh} {h : VH} {H : Hp} {x : PV} {u : V} {xs : List PV} (rx : Rep K g h.length x u) (rh : RelH K g h H) (e : lstOf x h = some xs) : ∃ a us, u = .ref a ∧ SqL K.K H a us ∧ Reps K g h.length xs us := by
  cases x with
  | lst ys =>
    cases e
    simp only [Rep] at rx
    obtain ⟨a, us, rfl, s, r⟩ := rx
    exact ⟨a, us, rfl, .inl (.inl (rh.same _ _ s)), r⟩
  | scr ys =>
    cases e
    simp only [Rep] at rx
    obtain ⟨a, us, rfl, s, r⟩ := rx
    exact ⟨a, us, rfl, rh.same.seq s, r⟩
  | ref i =>
    simp only [Rep] at rx
    have e : (match h[i]? with
      | some (PO.lst xs) => some xs
      | _ => none) = some xs := e
    split at e
    · rename_i ys e1
      cases e
      obtain ⟨u', hu, ru⟩ := rh.cell i _ e1 (by intro z; cases z)
      obtain ⟨us, rfl, r⟩ := ru
      exact ⟨_, us, rx.2, .inl (.inl hu), r⟩
    · cases e
  | _ => cases e
/-- .. of one's own (not the script) -/
def trkOf : PV → VH → Option (List PV)
  | .lst xs, _ => some xs
  | .ref i, h => match h[i]? with
    | some (.lst xs) => some xs
    | _ => none
  | _, _ => none
@[simp] theorem trkOf_lst (xs : List PV) (h : VH) : trkOf (.lst xs) h = some xs := (rfl)
theorem trkOf_ref {i : Nat} {xs : List PV} {h : VH} (e : h[i]? = some (.lst xs)) : trkOf (.ref i) h = some xs := by simp [trkOf, e]
theorem trkOf_run {K : Kc} {g : Gh} {h : VH} {H : Hp} {x : PV} {u : V} {xs : List PV} (rx : Rep K g h.length x u) (rh : RelH K g h H) (e : trkOf x h = some xs) : ∃ a us, u = .ref a ∧ H a = some (.lst us) ∧ Reps K g h.length xs us := by
  cases x with
  | lst ys =>
    cases e
    simp only [Rep] at rx
    obtain ⟨a, us, rfl, s, r⟩ := rx
    exact ⟨a, us, rfl, rh.same _ _ s, r⟩
  | ref i =>
    simp only [Rep] at rx
    have e : (match h[i]? with
      | some (PO.lst xs) => some xs
      | _ => none) = some xs := e
    split at e
    · rename_i ys e1
      cases e
      obtain ⟨u', hu, ru⟩ := rh.cell i _ e1 (by intro z; cases z)
      obtain ⟨us, rfl, r⟩ := ru
      exact ⟨_, us, rx.2, hu, r⟩
    · cases e
  | _ => cases e
/-- a list or a tuple -/
def seqOf : PV → VH → Option (List PV)
  | .tup xs, _ => some xs
  | x, h => lstOf x h
@[simp] theorem seqOf_tup (xs : List PV) (h : VH) : seqOf (.tup xs) h = some xs := (rfl)
@[simp] theorem seqOf_scr (xs : List PV) (h : VH) : seqOf (.scr xs) h = some xs := (rfl)
@[simp] theorem seqOf_lst (xs : List PV) (h : VH) : seqOf (.lst xs) h = some xs := (rfl)
theorem seqOf_ref {i : Nat} {xs : List PV} {h : VH} (e : h[i]? = some (.lst xs)) : seqOf (.ref i) h = some xs := by simp [seqOf, lstOf, e]
theorem tup_run {K : Kc} {g : Gh} {h : VH} {H : Hp} {u : V} {xs : List PV} (rx : Rep K g h.length (.tup xs) u) (rh : RelH K g h H) : ∃ a us, u = .ref a ∧ H a = some (.tup us) ∧ Reps K g h.length xs us := by
  simp only [Rep] at rx
  obtain ⟨a, us, rfl, s, r⟩ := rx
  exact ⟨a, us, rfl, rh.same _ _ s, r⟩
theorem seqOf_run {K : Kc} {g : Gh} {h : VH} {H : Hp} {x : PV} {u : V} {xs : List PV} (rx : Rep K g h.length x u) (rh : RelH K g h H) (e : seqOf x h = some xs) : ∃ a us, u = .ref a ∧ (SqL K.K H a us ∨ SqT K.K H a us) ∧ Reps K g h.length xs us := by
  cases x with
  | tup ys =>
    cases e
    obtain ⟨a, us, rfl, s, r⟩ := tup_run rx rh
    exact ⟨a, us, rfl, .inr (.inl (.inl s)), r⟩
  | lst ys =>
    obtain ⟨a, us, rfl, s, r⟩ := lstOf_run rx rh e
    exact ⟨a, us, rfl, .inl s, r⟩
  | scr ys =>
    obtain ⟨a, us, rfl, s, r⟩ := lstOf_run rx rh e
    exact ⟨a, us, rfl, .inl s, r⟩
  | ref i =>
    obtain ⟨a, us, rfl, s, r⟩ := lstOf_run rx rh e
    exact ⟨a, us, rfl, .inl s, r⟩
  | _ => cases e

/-! ### new lists and tuples -/
/-- a new frozen thing at p -/
theorem RelH.frz {K : Kc} {g : Gh} {h : VH} {H : Hp} {p : Addr} {o : HO} (r : RelH K g h H) (np : H p = none) :
    g.le h.length { g with Hf := upd g.Hf p o } ∧ RelH K { g with Hf := upd g.Hf p o } h (upd H p o) := by
  have nf : g.Hf p = none := r.same.free np
  have le : g.le h.length { g with Hf := upd g.Hf p o } := ⟨fun b w e => (upd_ne (ne_of_none e nf)).trans e, fun _ _ => rfl, rfl⟩
  refine ⟨le, fun b w e => ?_, fun i q e d => ?_, fun i q e d => ?_, r.inj, fun b w e => ?_, fun a2 dd e2 z => ?_⟩
  · by_cases hb : b = p
    · subst hb
      have e : upd g.Hf b o b = some w := e
      rw [upd_same] at e; cases e; exact upd_same
    · have e : upd g.Hf p o b = some w := e
      rw [upd_ne hb] at e
      rw [upd_ne hb]
      exact r.same _ _ e
  · obtain ⟨u, hu, ru⟩ := r.cell i q e d
    exact ⟨u, by rw [upd_ne (ne_of_none hu np)]; exact hu, ru.mono le (Nat.le_refl _)⟩
  · obtain ⟨u, hu, ru⟩ := r.cell i q e d
    show upd g.Hf p o (g.ρ i) = none
    rw [upd_ne (ne_of_none hu np)]
    exact r.sep i q e d
  · obtain ⟨h1, h2, h3⟩ := r.fr b w e
    have nb : b ≠ p := ne_of_none h1 np
    exact ⟨by rw [upd_ne nb]; exact h1, by show upd g.Hf p o b = none; rw [upd_ne nb]; exact h2, h3⟩
  · obtain ⟨gs, e3, e4⟩ := r.ex a2 dd e2 z
    exact ⟨gs, le.same _ _ e3, e4.mono le (Nat.le_refl _)⟩
theorem tup_new {K : Kc} {g : Gh} {h : VH} {H : Hp} {xs : List PV} {us : List V} {Q : VK} {E : XK} (rh : RelH K g h H) (r : Reps K g h.length xs us) (p : Post K (Rep K) g h.length Q E (.ok (.tup xs) h)) : ∀ q, H q = none → Q (.ref q) (upd H q (.tup us)) := fun q nq => by
  obtain ⟨le, rh'⟩ := RelH.frz (o := .tup us) rh nq
  refine p _ _ _ le (Nat.le_refl _) rh' ?_
  simp only [Rep]
  exact ⟨q, us, rfl, upd_same, r.mono le (Nat.le_refl _)⟩
/-- a new list: in a cell, or for reading alone -/
def mkL (cell : Bool) (xs : List PV) (h : VH) : Res PV := match cell with
  | true => .ok (.ref h.length) (h ++ [.lst xs])
  | false => .ok (.lst xs) h
@[simp] theorem mkL_t (xs : List PV) (h : VH) : mkL true xs h = .ok (.ref h.length) (h ++ [.lst xs]) := (rfl)
@[simp] theorem mkL_f (xs : List PV) (h : VH) : mkL false xs h = .ok (.lst xs) h := (rfl)
theorem mkL_new {K : Kc} {g : Gh} {h : VH} {H : Hp} {cell : Bool} {xs : List PV} {us : List V} {Q : VK} {E : XK} (rh : RelH K g h H) (r : Reps K g h.length xs us) (p : Post K (Rep K) g h.length Q E (mkL cell xs h)) : ∀ q, H q = none → Q (.ref q) (upd H q (.lst us)) := fun q nq => by
  cases cell with
  | false =>
    obtain ⟨le, rh'⟩ := RelH.frz (o := .lst us) rh nq
    refine p _ _ _ le (Nat.le_refl _) rh' ?_
    simp only [Rep]
    exact ⟨q, us, rfl, upd_same, r.mono le (Nat.le_refl _)⟩
  | true =>
    have sm : Same H (upd H q (.lst us)) := fun b o e => by rw [upd_ne (ne_of_none e nq)]; exact e
    have l0 : g.le h.length { g with ρ := fun i => if i = h.length then q else g.ρ i } := ⟨Same.refl _, fun i hi => if_neg (Nat.ne_of_lt hi), rfl⟩
    obtain ⟨le, rh'⟩ := RelH.push (o := .lst xs) rh sm nq upd_same ⟨us, rfl, r.mono l0 (Nat.le_succ _)⟩
    refine p _ _ _ le (by simp) rh' ?_
    simp only [Rep]
    simp
section
variable {c : Ck} {X : Cx} {W : WX} {pos : Pos} {e : Expr} {es : List Expr} {m : EM} {ms : AM}
def eTup (ms : AM) : EM := fun σ h => (ms σ h).bind fun xs h1 => .ok (.tup xs) h1
def eLst (cell : Bool) (ms : AM) : EM := fun σ h => (ms σ h).bind fun xs h1 => mkL cell xs h1
theorem SE.tup {k} (ha : SA c X W es ms) (hz : decide (es.length ≤ 16777216) = true := by decide) : SE c X W (.Tuple es k pos) (eTup ms) := by
  obtain ⟨la, t, p, s⟩ := ha
  refine ⟨_, pe_tup p, fun g σ h τ H Q rs rh q => s g σ h τ H _ rs rh ?_⟩
  have ln := fun xs h' => la σ h xs h'
  dsimp only [eTup] at q
  generalize ms σ h = res at q ln
  cases res with
  | ok xs h' =>
    intro g1 us H1 l hn rh1 ru
    refine ⟨by rw [ru.length, ln xs h' rfl, sizeLine_eq]; exact of_decide_eq_true hz, tup_new (E := at_ W τ) rh1 ru (Post.up q l hn)⟩
  | exc e' h' => exact q
  | bad => exact q
theorem SE.lst (cell : Bool) (ha : SA c X W es ms) (hz : decide (es.length ≤ 16777216) = true := by decide) : SE c X W (.List es pos) (eLst cell ms) := by
  obtain ⟨la, t, p, s⟩ := ha
  refine ⟨_, pe_lst p, fun g σ h τ H Q rs rh q => s g σ h τ H _ rs rh ?_⟩
  have ln := fun xs h' => la σ h xs h'
  dsimp only [eLst] at q
  generalize ms σ h = res at q ln
  cases res with
  | ok xs h' =>
    intro g1 us H1 l hn rh1 ru
    refine ⟨by rw [ru.length, ln xs h' rfl, sizeLine_eq]; exact of_decide_eq_true hz, mkL_new (E := at_ W τ) rh1 ru (Post.up q l hn)⟩
  | exc e' h' => exact q
  | bad => exact q

/-! ### arithmetic -/
def addP (cell : Bool) : PV → PV → VH → Res PV
  | .int i, .int j, h => .ok (.int (i + j)) h
  | .str a, .str b, h => if a.length + b.length ≤ 16777216 then .ok (.str (a ++ b)) h else .bad
  | .tup xs, .tup ys, h => if xs.length + ys.length ≤ 16777216 then .ok (.tup (xs ++ ys)) h else .bad
  | x, y, h => match trkOf x h, trkOf y h with
    | some xs, some ys => if xs.length + ys.length ≤ 16777216 then mkL cell (xs ++ ys) h else .bad
    | _, _ => .bad
@[simp] theorem addP_int (b : Bool) (i j : Int) (h : VH) : addP b (.int i) (.int j) h = .ok (.int (i + j)) h := (rfl)
@[simp] theorem addP_str (b : Bool) (i j : Str) (h : VH) : addP b (.str i) (.str j) h = if i.length + j.length ≤ 16777216 then .ok (.str (i ++ j)) h else .bad := (rfl)
@[simp] theorem addP_tup (b : Bool) (i j : List PV) (h : VH) : addP b (.tup i) (.tup j) h = if i.length + j.length ≤ 16777216 then .ok (.tup (i ++ j)) h else .bad := (rfl)
@[simp] theorem addP_lst (b : Bool) (i j : List PV) (h : VH) : addP b (.lst i) (.lst j) h = if i.length + j.length ≤ 16777216 then mkL b (i ++ j) h else .bad := (rfl)
def rAddAll (K : PySem.W.Frag) : R2 := fun x y H Q => rI0 (fun i j => .int (i + j)) x y H Q ∨ (∃ i j, x = .str i ∧ y = .str j ∧ i.length + j.length ≤ sizeLine ∧ Q (.str (i ++ j)) H) ∨ rCatA K x y H Q ∨ rCat x y H Q
theorem op_addAll : OpR X (binaryOp .Add) (rAddAll X.K) := op_add.or (op_add_str.or (op_catA.or op_cat))
theorem Post.go {α β : Type} {K : Kc} {R : Gh → Nat → α → β → Prop} {g : Gh} {h : VH} {H : Hp} {Q : β → Hp → Prop} {E : XK} {a : α} {u : β} (p : Post K R g h.length Q E (.ok a h)) (rh : RelH K g h H) (r : R g h.length a u) : Q u H := p g u H (Gh.le.refl _ _) (Nat.le_refl _) rh r
theorem addS (cell : Bool) : OpS c X (rAddAll X.K) (addP cell) := by
  intro g h H x y u v Q E rx ry rh p
  have lists : ∀ {xs ys : List PV}, trkOf x h = some xs → trkOf y h = some ys → Post (kx c X) (Rep (kx c X)) g h.length Q E (if xs.length + ys.length ≤ 16777216 then mkL cell (xs ++ ys) h else .bad) → rAddAll X.K u v H Q := by
    intro xs ys ex ey q
    split at q
    · rename_i hz
      obtain ⟨a, us, rfl, ha, r1⟩ := trkOf_run rx rh ex
      obtain ⟨b, vs, rfl, hb, r2⟩ := trkOf_run ry rh ey
      exact .inr (.inr (.inr ⟨a, b, us, vs, rfl, rfl, ha, hb, by rw [r1.length, r2.length, sizeLine_eq]; exact hz, mkL_new rh (r1.append r2) q⟩))
    · exact q.elim
  unfold addP at p
  split at p
  · simp only [Rep] at rx ry
    subst rx ry
    exact .inl ⟨_, _, rfl, rfl, p.go rh (by simp only [Rep])⟩
  · simp only [Rep] at rx ry
    subst rx ry
    split at p
    · rename_i hz
      exact .inr (.inl ⟨_, _, rfl, rfl, by rw [sizeLine_eq]; exact hz, p.go rh (by simp only [Rep])⟩)
    · exact p.elim
  · split at p
    · rename_i xs ys hz
      obtain ⟨a, us, rfl, ha, r1⟩ := tup_run rx rh
      obtain ⟨b, vs, rfl, hb, r2⟩ := tup_run ry rh
      refine .inr (.inr (.inl ⟨a, b, us, vs, rfl, rfl, .inl (.inl ha), .inl (.inl hb), by rw [r1.length, r2.length, sizeLine_eq]; exact hz, fun e => ?_, fun e e' => ?_, fun _ _ => tup_new rh (r1.append r2) p⟩))
      · have : xs = [] := by cases xs with
          | nil => rfl
          | cons z zs => have := r1.length; rw [e] at this; simp at this
        subst this
        exact p.go rh ry
      · have : ys = [] := by cases ys with
          | nil => rfl
          | cons z zs => have := r2.length; rw [e'] at this; simp at this
        subst this
        rw [List.append_nil] at p
        exact p.go rh rx
    · exact p.elim
  · split at p
    · exact lists ‹_› ‹_› p
    · exact p.elim
end
end Pm
namespace L2
open PySem PySem.Spec PyProof.Rows
theorem pm_tuple_mul1 (l : Addr) (items : Array Value) (n : Nat) (dd : Option Addr) (sl : Array (Option Value)) (u : Tok) :
    Meets (Builtin.«tuple.__mul__» ⟨[.ref l, .int 1 u], []⟩) (fun _ R s => s.heap.get? l = some { cls := .type "tuple", dict := dd, data := .seq items n, slots := sl } ∧
      R (.ok (.ret (Value.ref l))) s) :=
  .of_wp fun prog w A R s h => by
    obtain ⟨hp, g, d, tk, os⟩ := s
    obtain ⟨hl, h⟩ := h
    have f1 := AutoSeq1.idx_int
    wp_walk using wpAny_loadPart' hl
    repeat (first
      | (refine wpAny_ite_false (decide_eq_false (by decide)) ?_; wp_walk using wpAny_loadPart' hl)
      | (refine wpAny_ite_true (decide_eq_true (by simp)) ?_; wp_walk using wpAny_loadPart' hl))
    exact ⟨_, rfl, h⟩
theorem pm_tuple_mul0 (l : Addr) (items : Array Value) (n : Nat) (dd : Option Addr) (sl : Array (Option Value)) (x : Int) (u : Tok) (c0 : (decide (x < -(2 ^ 63)) || decide (x ≥ 2 ^ 63)) = false) (c1 : (items.isEmpty || x == 1) = false) (c2 : (decide (x ≤ 0) || items.isEmpty) = true) :
    Meets (Builtin.«tuple.__mul__» ⟨[.ref l, .int x u], []⟩) (fun _ R s => s.heap.get? l = some { cls := .type "tuple", dict := dd, data := .seq items n, slots := sl } ∧
      R (.ok (.ret (Value.ref s.heap.objs.size))) { s with heap := s.heap.push { cls := Value.type "tuple", data := Data.seq #[] }, toks := s.toks }) :=
  .of_wp fun prog w A R s h => by
    obtain ⟨hp, g, d, tk, os⟩ := s
    obtain ⟨hl, h⟩ := h
    have f1 := AutoSeq1.idx_int
    wp_walk using wpAny_loadPart' hl
    repeat (first
      | (refine wpAny_ite_false (decide_eq_false (by rw [c0]; exact Bool.false_ne_true)) ?_; wp_walk using wpAny_loadPart' hl)
      | (refine wpAny_ite_false (decide_eq_false (by rw [c1]; exact Bool.false_ne_true)) ?_; wp_walk using wpAny_loadPart' hl)
      | (refine wpAny_ite_true (decide_eq_true c2) ?_; wp_walk using wpAny_loadPart' hl))
    exact ⟨_, rfl, h⟩
def rRepT1 (K : PySem.W.Frag) : R2 := fun x y H Q => ∃ l k xs, x = .ref l ∧ y = .int k ∧ SqT K H l xs ∧ xs ≠ [] ∧ -1000 ≤ k ∧ k ≤ 1 ∧ (k = 1 → Q (.ref l) H) ∧ (k ≤ 0 → ∀ p, H p = none → Q (.ref p) (upd H p (.tup [])))
theorem op_repT1 {X : Cx} : OpR X (binaryOp .Mult) (rRepT1 X.K) := by
  intro pins s σ H x y v u Q I rx ry h
  obtain ⟨l, k, xs, rfl, rfl, hT, hne, h1, h2, q1, q0⟩ := h
  cases rx
  obtain ⟨t, rfl⟩ := ry
  obtain ⟨its, r, ⟨⟨cls, dd, data, sl⟩, ho, hc, n, hd⟩, hs⟩ := I.tuple hT
  simp only at hc hd
  subst hc hd
  have hle : its.length = xs.length := r.length.symm
  have hn : its ≠ [] := fun e => hne (by
    rw [e] at hle
    exact List.eq_nil_of_length_eq_zero hle.symm)
  have hi : its.toArray.isEmpty = false := by
    cases its with
    | nil => exact absurd rfl hn
    | cons a b => rfl
  by_cases hk : k = 1
  · subst hk
    exact wpAny_binaryOp_repeat_ref (T := "tuple") (U := "int") (by decide) ⟨_, ho, rfl⟩ (fun s' => typeIs_int s' 1 t) noFill_tuple_mul F.fills_int_mul F.slot_int_rmul repeat_tuple F.slot_int_index.lookup
      (call_meets F.slot_int_rmul (typeIs_int s 1 t) F.entry_int_rmul (F.args_int_rmul_2 _ _) (int_rmul_tuple 1 t l its.toArray n dd sl)
        ⟨ho, rfl, ⟨_, ho, rfl⟩, call_meets F.slot_tuple_mul ⟨_, ho, rfl⟩ F.entry_tuple_mul (F.args_tuple_mul_2 _ _) (pm_tuple_mul1 l its.toArray n dd sl t) ⟨ho, .ref l, H, I, rfl, q1 rfl⟩⟩)
  · have c0 : (decide (k < -(2 ^ 63)) || decide (k ≥ 2 ^ 63)) = false := by
      rw [decide_eq_false (by omega), decide_eq_false (by omega)] <;> rfl
    have c1 : (its.toArray.isEmpty || k == 1) = false := by
      rw [hi, Bool.false_or]
      exact beq_eq_false_iff_ne.mpr hk
    have c2 : (decide (k ≤ 0) || its.toArray.isEmpty) = true := by
      rw [hi, Bool.or_false]
      exact decide_eq_true (by omega)
    refine wpAny_binaryOp_repeat_ref (T := "tuple") (U := "int") (by decide) ⟨_, ho, rfl⟩ (fun s' => typeIs_int s' k t) noFill_tuple_mul F.fills_int_mul F.slot_int_rmul repeat_tuple F.slot_int_index.lookup
      (call_meets F.slot_int_rmul (typeIs_int s k t) F.entry_int_rmul (F.args_int_rmul_2 _ _) (int_rmul_tuple k t l its.toArray n dd sl)
        ⟨ho, rfl, ⟨_, ho, rfl⟩, call_meets F.slot_tuple_mul ⟨_, ho, rfl⟩ F.entry_tuple_mul (F.args_tuple_mul_2 _ _) (pm_tuple_mul0 l its.toArray n dd sl k t c0 c1 c2) ⟨ho, ?_⟩⟩)
    refine ⟨.ref s.heap.objs.size, _, I.laid (t' := s.toks) (o := .tup []) (fun b ob q => Heap.get?_push_of_some _ q) (Nat.le_refl _) ?_, rfl, q0 (by omega) _ (I.hok.fresh (Nat.le_refl _))⟩
    exact ⟨by rw [sizeLine_eq]; decide, [], .nil, IsTup.new _ _⟩
end L2
namespace Pm
open PySem PySem.Spec L2 PyProof.Rows
section
variable {c : Ck} {X : Cx} {W : WX} {pos : Pos} {e : Expr} {es : List Expr} {m : EM} {ms : AM}

/-! ### ints -/
open Classical in
noncomputable def int2 (C : Int → Int → Prop) (gp : Int → Int → PV) : PV → PV → VH → Res PV
  | .int i, .int j, h => if C i j then .ok (gp i j) h else .bad
  | _, _, _ => .bad
theorem int2_ok {C : Int → Int → Prop} {gp : Int → Int → PV} {i j : Int} {h : VH} (z : C i j) : int2 C gp (.int i) (.int j) h = .ok (gp i j) h := if_pos z
theorem int2_run {C : Int → Int → Prop} {gp : Int → Int → PV} {K : Kc} {g : Gh} {h : VH} {x y : PV} {u v : V} {Q : VK} {E : XK} (rx : Rep K g h.length x u) (ry : Rep K g h.length y v) (p : Post K (Rep K) g h.length Q E (int2 C gp x y h)) :
    ∃ i j, u = .int i ∧ v = .int j ∧ C i j ∧ Post K (Rep K) g h.length Q E (.ok (gp i j) h) := by
  unfold int2 at p
  split at p
  · split at p
    · simp only [Rep] at rx ry
      exact ⟨_, _, rx, ry, ‹_›, p⟩
    · exact p.elim
  · exact p.elim
theorem OpS.i2 {C : Int → Int → Prop} {gv : Int → Int → V} {gp : Int → Int → PV} (hg : ∀ (K : Kc) g n i j, Rep K g n (gp i j) (gv i j)) : OpS c X (rI C gv) (int2 C gp) := fun g h H x y u v Q E rx ry rh p => by
  obtain ⟨i, j, rfl, rfl, z, p⟩ := int2_run rx ry p
  exact ⟨i, j, rfl, rfl, z, p.go rh (hg _ _ _ _ _)⟩
def int2' (gp : Int → Int → PV) : PV → PV → VH → Res PV
  | .int i, .int j, h => .ok (gp i j) h
  | _, _, _ => .bad
@[simp] theorem int2'_ok {gp : Int → Int → PV} {i j : Int} {h : VH} : int2' gp (.int i) (.int j) h = .ok (gp i j) h := (rfl)
theorem OpS.i2' {gv : Int → Int → V} {gp : Int → Int → PV} (hg : ∀ (K : Kc) g n i j, Rep K g n (gp i j) (gv i j)) : OpS c X (rI0 gv) (int2' gp) := fun g h H x y u v Q E rx ry rh p => by
  unfold int2' at p
  split at p
  · simp only [Rep] at rx ry
    exact ⟨_, _, rx, ry, p.go rh (hg _ _ _ _ _)⟩
  · exact p.elim
theorem repI {K : Kc} {g : Gh} {n : Nat} {i : Int} : Rep K g n (.int i) (.int i) := by simp only [Rep]
theorem repB {K : Kc} {g : Gh} {n : Nat} {i : Bool} : Rep K g n (.bl i) (.bl i) := by simp only [Rep]
theorem repS {K : Kc} {g : Gh} {n : Nat} {i : Str} : Rep K g n (.str i) (.str i) := by simp only [Rep]
theorem repN {K : Kc} {g : Gh} {n : Nat} : Rep K g n .non .non := by simp only [Rep]
abbrev subP : PV → PV → VH → Res PV := int2' fun i j => .int (i - j)
theorem subS : OpS c X (rI0 fun i j => .int (i - j)) subP := OpS.i2' fun _ _ _ _ _ => repI
abbrev ltP : PV → PV → VH → Res PV := int2' fun i j => .bl (decide (i < j))
abbrev leP : PV → PV → VH → Res PV := int2' fun i j => .bl (decide (i ≤ j))
abbrev gtP : PV → PV → VH → Res PV := int2' fun i j => .bl (decide (j < i))
abbrev geP : PV → PV → VH → Res PV := int2' fun i j => .bl (decide (j ≤ i))
theorem ltS : OpS c X (rI0 fun i j => .bl (decide (i < j))) ltP := OpS.i2' fun _ _ _ _ _ => repB
theorem leS : OpS c X (rI0 fun i j => .bl (decide (i ≤ j))) leP := OpS.i2' fun _ _ _ _ _ => repB
theorem gtS : OpS c X (rI0 fun i j => .bl (decide (j < i))) gtP := OpS.i2' fun _ _ _ _ _ => repB
theorem geS : OpS c X (rI0 fun i j => .bl (decide (j ≤ i))) geP := OpS.i2' fun _ _ _ _ _ => repB
noncomputable abbrev modP : PV → PV → VH → Res PV := int2 (fun _ j => 0 < j) fun i j => .int (i % j)
theorem modS : OpS c X (rI (fun _ j => 0 < j) fun i j => .int (i % j)) modP := OpS.i2 fun _ _ _ _ _ => repI
def DivC (i j : Int) : Prop := CDiv i j ∨ CDivW i j
noncomputable abbrev divP : PV → PV → VH → Res PV := int2 DivC fun i j => .int (i / j)
def rDiv : R2 := fun x y H Q => rI CDiv (fun i j => .int (i / j)) x y H Q ∨ rI CDivW (fun i j => .int (i / j)) x y H Q
theorem op_div : OpR X (binaryOp .FloorDiv) rDiv := op_fdiv.or op_fdivW
theorem divS : OpS c X rDiv divP := fun g h H x y u v Q E rx ry rh p => by
  obtain ⟨i, j, rfl, rfl, z, p⟩ := int2_run rx ry p
  rcases z with z | z
  · exact .inl ⟨i, j, rfl, rfl, z, p.go rh repI⟩
  · exact .inr ⟨i, j, rfl, rfl, z, p.go rh repI⟩
theorem divC_small {i j : Int} (h : 0 < j) (h' : j < 1073741824) : DivC i j := .inl ⟨h, h'⟩
noncomputable abbrev powP : PV → PV → VH → Res PV := int2 CPow fun i j => .int (i ^ j.toNat)
theorem powS : OpS c X (rI CPow fun i j => .int (i ^ j.toNat)) powP := OpS.i2 fun _ _ _ _ _ => repI
noncomputable abbrev shlP : PV → PV → VH → Res PV := int2 CPow fun i j => .int (i * 2 ^ j.toNat)
theorem shlS : OpS c X (rI CPow fun i j => .int (i * 2 ^ j.toNat)) shlP := OpS.i2 fun _ _ _ _ _ => repI
abbrev andP : PV → PV → VH → Res PV := int2' fun i j => .int (Builtin.bitAnd i j)
theorem andS : OpS c X (rI0 fun i j => .int (Builtin.bitAnd i j)) andP := OpS.i2' fun _ _ _ _ _ => repI
abbrev xorP : PV → PV → VH → Res PV := int2' fun i j => .int (Builtin.bitXor i j)
theorem xorS : OpS c X (rI0 fun i j => .int (Builtin.bitXor i j)) xorP := OpS.i2' fun _ _ _ _ _ => repI
def negP : PV → VH → Res PV
  | .int i, h => .ok (.int (-i)) h
  | _, _ => .bad
@[simp] theorem negP_int (i : Int) (h : VH) : negP (.int i) h = .ok (.int (-i)) h := (rfl)
theorem negS : UnS c X (rU fun i => .int (-i)) negP := fun g h H x u Q E rx rh p => by
  cases x with
  | int i =>
    simp only [Rep] at rx
    exact ⟨i, rx, p.go rh repI⟩
  | _ => exact p.elim

/-! ### products -/
def MulC (i j : Int) : Prop := CMul i j ∨ CMulW i j
theorem MulC.left {i j : Int} (h1 : -(2 ^ 64) < i) (h2 : i < 2 ^ 64) : MulC i j := .inl (.inl ⟨h1, h2⟩)
theorem MulC.right {i j : Int} (h1 : -(2 ^ 64) < j) (h2 : j < 2 ^ 64) : MulC i j := .inl (.inr ⟨h1, h2⟩)
open Classical in
noncomputable def mulP (cell : Bool) : PV → PV → VH → Res PV
  | .int i, .int j, h => if MulC i j then .ok (.int (i * j)) h else .bad
  | .str a, .int n, h => if a.length ≤ 1000 ∧ -1000 ≤ n ∧ n ≤ 1000 then .ok (.str (Txt.mul a n)) h else .bad
  | .tup xs, .int n, h => if xs ≠ [] ∧ -1000 ≤ n ∧ n ≤ 1000 ∧ xs.length ≤ 1000 then .ok (.tup (List.replicate n.toNat xs).flatten) h else .bad
  | x, .int n, h => match trkOf x h with
    | some xs => if -1000000 ≤ n ∧ xs.length * n.toNat ≤ 16777216 ∧ n ≤ 16777216 then mkL cell (List.replicate n.toNat xs).flatten h else .bad
    | none => .bad
  | _, _, _ => .bad
theorem mulP_int {cell : Bool} {i j : Int} {h : VH} (z : MulC i j) : mulP cell (.int i) (.int j) h = .ok (.int (i * j)) h := if_pos z
theorem mulP_lst {cell : Bool} {xs : List PV} {n : Int} {h : VH} (z : -1000000 ≤ n ∧ xs.length * n.toNat ≤ 16777216 ∧ n ≤ 16777216) : mulP cell (.lst xs) (.int n) h = mkL cell (List.replicate n.toNat xs).flatten h := if_pos z
theorem mulP_tup {cell : Bool} {xs : List PV} {n : Int} {h : VH} (z : xs ≠ [] ∧ -1000 ≤ n ∧ n ≤ 1000 ∧ xs.length ≤ 1000) : mulP cell (.tup xs) (.int n) h = .ok (.tup (List.replicate n.toNat xs).flatten) h := if_pos z
theorem mulP_str {cell : Bool} {a : Str} {n : Int} {h : VH} (z : a.length ≤ 1000 ∧ -1000 ≤ n ∧ n ≤ 1000) : mulP cell (.str a) (.int n) h = .ok (.str (Txt.mul a n)) h := if_pos z
def rMulS : R2 := fun x y H Q => ∃ a n, x = .str a ∧ y = .int n ∧ a.length ≤ 1000 ∧ -1000 ≤ n ∧ n ≤ 1000 ∧ Q (.str (Txt.mul a n)) H
theorem op_mulS : OpR X (binaryOp .Mult) rMulS := by
  intro pins s τ H x y v u Q I rx ry hh
  obtain ⟨a, n, rfl, rfl, h1, h2, h3, q⟩ := hh
  obtain ⟨t, rfl⟩ := rx
  obtain ⟨t', rfl⟩ := ry
  exact PySem.SB.mul (PyProof.Rows.mulOk_of 1000 1000 h1 h3 (by omega) (by decide) (by decide)) fun t2 k => ⟨.str _, H, I.tok _, ⟨_, rfl⟩, q⟩
def rMulAll (K : PySem.W.Frag) : R2 := fun x y H Q => rI CMul (fun i j => .int (i * j)) x y H Q ∨ rI CMulW (fun i j => .int (i * j)) x y H Q ∨ rMulS x y H Q ∨ rRepT K x y H Q ∨ rRep x y H Q ∨ rRepT1 K x y H Q
theorem op_mulAll : OpR X (binaryOp .Mult) (rMulAll X.K) := op_mul.or (op_mulW.or (op_mulS.or (op_repT.or (op_rep.or op_repT1))))
theorem Reps.rep {K : Kc} {g : Gh} {n : Nat} {xs : List PV} {us : List V} (r : Reps K g n xs us) : ∀ k : Nat, Reps K g n (List.replicate k xs).flatten (List.replicate k us).flatten
  | 0 => by simp only [List.replicate_zero, List.flatten_nil]; exact Reps.nil
  | k + 1 => by
    simp only [List.replicate_succ, List.flatten_cons]
    exact Reps.append r (Reps.rep r k)
theorem mulS (cell : Bool) : OpS c X (rMulAll X.K) (mulP cell) := fun g h H x y u v Q E rx ry rh p => by
  unfold mulP at p
  split at p
  · split at p
    · rename_i z
      simp only [Rep] at rx ry
      rcases z with z | z
      · exact .inl ⟨_, _, rx, ry, z, p.go rh repI⟩
      · exact .inr (.inl ⟨_, _, rx, ry, z, p.go rh repI⟩)
    · exact p.elim
  · split at p
    · rename_i z
      simp only [Rep] at rx ry
      exact .inr (.inr (.inl ⟨_, _, rx, ry, z.1, z.2.1, z.2.2, p.go rh repS⟩))
    · exact p.elim
  · split at p
    · rename_i z
      simp only [Rep] at ry
      obtain ⟨a, us, rfl, ha, r⟩ := tup_run rx rh
      have hne : us ≠ [] := fun en => by
        have := r.length
        rw [en] at this
        exact z.1 (List.length_eq_zero_iff.mp this.symm)
      rename_i xs n
      by_cases h2 : 2 ≤ n
      · exact .inr (.inr (.inr (.inl ⟨a, _, us, rfl, ry, .inl (.inl ha), hne, h2, z.2.2.1, by rw [r.length]; exact z.2.2.2, tup_new rh (r.rep _) p⟩)))
      · refine .inr (.inr (.inr (.inr (.inr ⟨a, n, us, rfl, ry, .inl (.inl ha), hne, z.2.1, by omega, fun e1 => ?_, fun e0 => ?_⟩))))
        · subst e1
          have e : (List.replicate (1 : Int).toNat xs).flatten = xs := by show (List.replicate 1 xs).flatten = xs; simp
          rw [e] at p
          exact p.go rh rx
        · have e : n.toNat = 0 := by omega
          rw [e] at p
          exact tup_new rh Reps.nil p
    · exact p.elim
  · split at p
    · rename_i xs ex
      split at p
      · rename_i z
        simp only [Rep] at ry
        obtain ⟨a, us, rfl, ha, r⟩ := trkOf_run rx rh ex
        refine .inr (.inr (.inr (.inr (.inl ⟨a, _, us, rfl, ry, ha, by omega, by omega, by rw [r.length, sizeLine_eq]; exact z.2.1, mkL_new rh (r.rep _) p⟩))))
      · exact p.elim
    · exact p.elim
  · exact p.elim

/-! ### data: equality, what is shown -/
def allD (f : PV → Option PyData) : List PV → Option (List PyData)
  | [] => some []
  | x :: xs => match f x, allD f xs with
    | some d, some ds => some (d :: ds)
    | _, _ => none
def toD (h : VH) : Nat → PV → Option PyData
  | _, .non => some .none
  | _, .bl b => some (.bool b)
  | _, .int i => some (.int i)
  | _, .str s => some (.str s)
  | n + 1, .tup xs => (allD (toD h n) xs).map .tuple
  | n + 1, .lst xs => (allD (toD h n) xs).map .list
  | n + 1, .ref i => match h[i]? with
    | some (.lst xs) => (allD (toD h n) xs).map .list
    | _ => none
  | _, _ => none
theorem allD_run {K : Kc} {g : Gh} {h : VH} {H : Hp} {n : Nat} {f : PV → Option PyData} (hf : ∀ x u d, Rep K g h.length x u → f x = some d → Dp K.K H u d ∧ d.depth ≤ n) : ∀ {xs : List PV} {us : List V} {ds : List PyData}, Reps K g h.length xs us → allD f xs = some ds → DpAll K.K H us ds ∧ PyData.depthAll ds ≤ n
  | [], _, _, r, e => by
    simp only [Reps] at r
    subst r
    cases e
    exact ⟨.nil, by simp [PyData.depthAll]⟩
  | x :: xs, _, _, r, e => by
    simp only [Reps] at r
    obtain ⟨u, us', rfl, a, b⟩ := r
    unfold allD at e
    split at e
    · rename_i d ds' e1 e2
      cases e
      obtain ⟨h1, h2⟩ := hf x u d a e1
      obtain ⟨h3, h4⟩ := allD_run hf b e2
      exact ⟨.cons h1 h3, by simp only [PyData.depthAll]; omega⟩
    · cases e
theorem toD_run {K : Kc} {g : Gh} {h : VH} {H : Hp} (rh : RelH K g h H) : ∀ (n : Nat) {x : PV} {u : V} {d : PyData}, Rep K g h.length x u → toD h n x = some d → Dp K.K H u d ∧ d.depth ≤ n + 1
  | 0, x, u, d, r, e => by
    cases x with
    | non => simp only [Rep] at r; subst r; cases e; exact ⟨.non, by simp [PyData.depth]⟩
    | bl b => simp only [Rep] at r; subst r; cases e; exact ⟨.bl b, by simp [PyData.depth]⟩
    | int b => simp only [Rep] at r; subst r; cases e; exact ⟨.int b, by simp [PyData.depth]⟩
    | str b => simp only [Rep] at r; subst r; cases e; exact ⟨.str b, by simp [PyData.depth]⟩
    | _ => cases e
  | n + 1, x, u, d, r, e => by
    have ih : ∀ x u d, Rep K g h.length x u → toD h n x = some d → Dp K.K H u d ∧ d.depth ≤ n + 1 := fun x u d r e => toD_run rh n r e
    cases x with
    | non => simp only [Rep] at r; subst r; cases e; exact ⟨.non, by simp [PyData.depth]⟩
    | bl b => simp only [Rep] at r; subst r; cases e; exact ⟨.bl b, by simp [PyData.depth]⟩
    | int b => simp only [Rep] at r; subst r; cases e; exact ⟨.int b, by simp [PyData.depth]⟩
    | str b => simp only [Rep] at r; subst r; cases e; exact ⟨.str b, by simp [PyData.depth]⟩
    | tup xs =>
      obtain ⟨a, us, rfl, ha, rr⟩ := tup_run r rh
      unfold toD at e
      obtain ⟨ds, e1, rfl⟩ := Option.map_eq_some_iff.mp e
      obtain ⟨h1, h2⟩ := allD_run ih rr e1
      exact ⟨.tup (.inl (.inl ha)) h1, by simp only [PyData.depth]; omega⟩
    | lst xs =>
      obtain ⟨a, us, rfl, ha, rr⟩ := trkOf_run r rh (trkOf_lst xs h)
      unfold toD at e
      obtain ⟨ds, e1, rfl⟩ := Option.map_eq_some_iff.mp e
      obtain ⟨h1, h2⟩ := allD_run ih rr e1
      exact ⟨.lst (.inl (.inl ha)) h1, by simp only [PyData.depth]; omega⟩
    | ref i =>
      unfold toD at e
      split at e
      · rename_i xs e0
        obtain ⟨a, us, rfl, ha, rr⟩ := trkOf_run r rh (trkOf_ref e0)
        obtain ⟨ds, e1, rfl⟩ := Option.map_eq_some_iff.mp e
        obtain ⟨h1, h2⟩ := allD_run ih rr e1
        exact ⟨.lst (.inl (.inl ha)) h1, by simp only [PyData.depth]; omega⟩
      · cases e
    | _ => cases e
abbrev dat (h : VH) (x : PV) : Option PyData := toD h 12 x
section
variable {f : PV → Option PyData}
@[simp] theorem allD_nil : allD f [] = some [] := (rfl)
theorem allD_cons {x : PV} {xs : List PV} {d : PyData} {ds : List PyData} (a : f x = some d) (b : allD f xs = some ds) : allD f (x :: xs) = some (d :: ds) := by simp [allD, a, b]
theorem allD_map {α : Type} {p : α → PV} {q : α → PyData} : ∀ {xs : List α}, (∀ x ∈ xs, f (p x) = some (q x)) → allD f (xs.map p) = some (xs.map q)
  | [], _ => rfl
  | x :: xs, h => allD_cons (h x List.mem_cons_self) (allD_map fun y hy => h y (List.mem_cons_of_mem _ hy))
theorem allD_append {xs ys : List PV} {ds es : List PyData} (a : allD f xs = some ds) (b : allD f ys = some es) : allD f (xs ++ ys) = some (ds ++ es) := by
  induction xs generalizing ds with
  | nil => cases a; exact b
  | cons x xs ih =>
    unfold allD at a
    split at a
    · rename_i d ds' e1 e2
      cases a
      exact allD_cons e1 (ih e2)
    · cases a
end
section
variable {h : VH} {n : Nat}
@[simp] theorem toD_non : toD h n .non = some .none := by cases n <;> rfl
@[simp] theorem toD_bl (b : Bool) : toD h n (.bl b) = some (.bool b) := by cases n <;> rfl
@[simp] theorem toD_int (b : Int) : toD h n (.int b) = some (.int b) := by cases n <;> rfl
@[simp] theorem toD_str (b : Str) : toD h n (.str b) = some (.str b) := by cases n <;> rfl
@[simp] theorem toD_tup (xs : List PV) : toD h (n + 1) (.tup xs) = (allD (toD h n) xs).map .tuple := (rfl)
@[simp] theorem toD_lst (xs : List PV) : toD h (n + 1) (.lst xs) = (allD (toD h n) xs).map .list := (rfl)
theorem toD_ref {i : Nat} {xs : List PV} (e : h[i]? = some (.lst xs)) : toD h (n + 1) (.ref i) = (allD (toD h n) xs).map .list := by unfold toD; rw [e]
@[simp] theorem allD_ints (xs : List Int) : allD (toD h n) (xs.map PV.int) = some (xs.map PyData.int) := allD_map fun _ _ => toD_int _
@[simp] theorem allD_bls (xs : List Bool) : allD (toD h n) (xs.map PV.bl) = some (xs.map PyData.bool) := allD_map fun _ _ => toD_bl _
@[simp] theorem allD_strs (xs : List Str) : allD (toD h n) (xs.map PV.str) = some (xs.map PyData.str) := allD_map fun _ _ => toD_str _
end
/-- == of data -/
def eqD (neg : Bool) (x y : PV) (h : VH) : Res PV := match dat h x, dat h y with
  | some d, some e => if d.canLay0 = true ∧ e.canLay0 = true then .ok (.bl (if neg then !PyData.eqv d e else PyData.eqv d e)) h else .bad
  | _, _ => .bad
theorem eqD_ok {neg : Bool} {x y : PV} {h : VH} {d e : PyData} (a : dat h x = some d) (b : dat h y = some e) (ca : d.canLay0 = true) (cb : e.canLay0 = true) : eqD neg x y h = .ok (.bl (if neg then !PyData.eqv d e else PyData.eqv d e)) h := by
  unfold eqD
  rw [a, b]
  exact if_pos ⟨ca, cb⟩
def eqP : PV → PV → VH → Res PV
  | .int i, .int j, h => .ok (.bl (decide (i = j))) h
  | .str i, .str j, h => .ok (.bl (decide (i = j))) h
  | .bl i, .bl j, h => .ok (.bl (decide (i = j))) h
  | x, y, h => eqD false x y h
def neP : PV → PV → VH → Res PV
  | .int i, .int j, h => .ok (.bl (!decide (i = j))) h
  | .str i, .str j, h => .ok (.bl (!decide (i = j))) h
  | .bl i, .bl j, h => .ok (.bl (!decide (i = j))) h
  | x, y, h => eqD true x y h
@[simp] theorem eqP_int (i j : Int) (h : VH) : eqP (.int i) (.int j) h = .ok (.bl (decide (i = j))) h := (rfl)
@[simp] theorem eqP_str (i j : Str) (h : VH) : eqP (.str i) (.str j) h = .ok (.bl (decide (i = j))) h := (rfl)
@[simp] theorem eqP_bl (i j : Bool) (h : VH) : eqP (.bl i) (.bl j) h = .ok (.bl (decide (i = j))) h := (rfl)
@[simp] theorem neP_int (i j : Int) (h : VH) : neP (.int i) (.int j) h = .ok (.bl (!decide (i = j))) h := (rfl)
@[simp] theorem neP_str (i j : Str) (h : VH) : neP (.str i) (.str j) h = .ok (.bl (!decide (i = j))) h := (rfl)
@[simp] theorem neP_bl (i j : Bool) (h : VH) : neP (.bl i) (.bl j) h = .ok (.bl (!decide (i = j))) h := (rfl)
@[simp] theorem eqP_tup (i : List PV) (y : PV) (h : VH) : eqP (.tup i) y h = eqD false (.tup i) y h := by cases y <;> rfl
@[simp] theorem eqP_lst (i : List PV) (y : PV) (h : VH) : eqP (.lst i) y h = eqD false (.lst i) y h := by cases y <;> rfl
@[simp] theorem eqP_ref (i : Nat) (y : PV) (h : VH) : eqP (.ref i) y h = eqD false (.ref i) y h := by cases y <;> rfl
@[simp] theorem neP_tup (i : List PV) (y : PV) (h : VH) : neP (.tup i) y h = eqD true (.tup i) y h := by cases y <;> rfl
@[simp] theorem neP_lst (i : List PV) (y : PV) (h : VH) : neP (.lst i) y h = eqD true (.lst i) y h := by cases y <;> rfl
@[simp] theorem neP_ref (i : Nat) (y : PV) (h : VH) : neP (.ref i) y h = eqD true (.ref i) y h := by cases y <;> rfl
theorem shaped_of {d : PyData} (c : d.canLay0 = true) (z : d.depth ≤ 13) : SeqAt.shaped d = true := by
  unfold SeqAt.shaped
  rw [c, Bool.true_and]
  exact decide_eq_true (by omega)
theorem eqD_run {K : Kc} {g : Gh} {h : VH} {H : Hp} {neg : Bool} {x y : PV} {u v : V} {Q : VK} {E : XK} (rh : RelH K g h H) (rx : Rep K g h.length x u) (ry : Rep K g h.length y v) (p : Post K (Rep K) g h.length Q E (eqD neg x y h)) :
    ∃ d e, Dp K.K H u d ∧ Dp K.K H v e ∧ SeqAt.shaped d = true ∧ SeqAt.shaped e = true ∧ Q (.bl (if neg then !PyData.eqv d e else PyData.eqv d e)) H := by
  unfold eqD at p
  split at p
  · rename_i d e e1 e2
    split at p
    · rename_i z
      obtain ⟨a1, a2⟩ := toD_run rh 12 rx e1
      obtain ⟨b1, b2⟩ := toD_run rh 12 ry e2
      exact ⟨d, e, a1, b1, shaped_of z.1 a2, shaped_of z.2 b2, p.go rh repB⟩
    · exact p.elim
  · exact p.elim
def rEqAll (K : PySem.W.Frag) : R2 := fun x y H Q => rEq x y H Q ∨ rEqD K x y H Q
def rNeAll (K : PySem.W.Frag) : R2 := fun x y H Q => rNe x y H Q ∨ rNeD K x y H Q
theorem op_eqAll (hu : X.A.units + 64 < cLine) : OpR X (compareOp .Eq) (rEqAll X.K) := op_eq.or (op_eqD hu)
theorem op_neAll (hu : X.A.units + 64 < cLine) : OpR X (compareOp .NotEq) (rNeAll X.K) := op_ne.or (op_neD hu)
theorem eqS : OpS c X (rEqAll X.K) eqP := fun g h H x y u v Q E rx ry rh p => by
  unfold eqP at p
  split at p
  · simp only [Rep] at rx ry; subst rx ry
    exact .inl ⟨rfl, by rw [dec_int, Bool.beq_eq_decide_eq]; exact p.go rh repB⟩
  · simp only [Rep] at rx ry; subst rx ry
    exact .inl ⟨rfl, by rw [dec_str, Bool.beq_eq_decide_eq]; exact p.go rh repB⟩
  · simp only [Rep] at rx ry; subst rx ry
    exact .inl ⟨rfl, by rw [dec_bl, Bool.beq_eq_decide_eq]; exact p.go rh repB⟩
  · obtain ⟨d, e, h1, h2, h3, h4, q⟩ := eqD_run rh rx ry p
    exact .inr ⟨d, e, h1, h2, h3, h4, q⟩
theorem neS : OpS c X (rNeAll X.K) neP := fun g h H x y u v Q E rx ry rh p => by
  unfold neP at p
  split at p
  · simp only [Rep] at rx ry; subst rx ry
    exact .inl ⟨rfl, by rw [dec_int, Bool.beq_eq_decide_eq]; exact p.go rh repB⟩
  · simp only [Rep] at rx ry; subst rx ry
    exact .inl ⟨rfl, by rw [dec_str, Bool.beq_eq_decide_eq]; exact p.go rh repB⟩
  · simp only [Rep] at rx ry; subst rx ry
    exact .inl ⟨rfl, by rw [dec_bl, Bool.beq_eq_decide_eq]; exact p.go rh repB⟩
  · obtain ⟨d, e, h1, h2, h3, h4, q⟩ := eqD_run rh rx ry p
    exact .inr ⟨d, e, h1, h2, h3, h4, q⟩
/-- is None -/
def isN (neg : Bool) : PV → PV → VH → Res PV
  | x, .non, h => .ok (.bl (match x with | .non => !neg | _ => neg)) h
  | _, _, _ => .bad
@[simp] theorem isN_non (neg : Bool) (h : VH) : isN neg .non .non h = .ok (.bl (!neg)) h := (rfl)
theorem rep_non {K : Kc} {g : Gh} {n : Nat} {x : PV} {u : V} (r : Rep K g n x u) : decide (u = .non) = (match x with | .non => true | _ => false) := by
  cases x with
  | non => simp only [Rep] at r; subst r; rfl
  | bl b => simp only [Rep] at r; subst r; rfl
  | int b => simp only [Rep] at r; subst r; rfl
  | str b => simp only [Rep] at r; subst r; rfl
  | ty b => simp only [Rep] at r; subst r; rfl
  | cls b => simp only [Rep] at r; subst r; rfl
  | exn => simp only [Rep] at r; obtain ⟨a, _, _, _, rfl⟩ := r; rfl
  | tup xs => simp only [Rep] at r; obtain ⟨a, us, rfl, _⟩ := r; rfl
  | lst xs => simp only [Rep] at r; obtain ⟨a, us, rfl, _⟩ := r; rfl
  | scr xs => simp only [Rep] at r; obtain ⟨a, us, rfl, _⟩ := r; rfl
  | ins C fs => simp only [Rep] at r; obtain ⟨a, dx, us, rfl, _⟩ := r; rfl
  | ref i => simp only [Rep] at r; obtain ⟨_, rfl⟩ := r; rfl
theorem isS : OpS c X (fun x y H Q => y = .non ∧ Q (.bl (decide (x = .non))) H) (isN false) := fun g h H x y u v Q E rx ry rh p => by
  unfold isN at p
  split at p
  · simp only [Rep] at ry
    refine ⟨ry, ?_⟩
    rw [rep_non rx]
    exact p.go rh (by simp only [Rep]; cases x <;> rfl)
  · exact p.elim
theorem isnotS : OpS c X (fun x y H Q => y = .non ∧ Q (.bl (!decide (x = .non))) H) (isN true) := fun g h H x y u v Q E rx ry rh p => by
  unfold isN at p
  split at p
  · simp only [Rep] at ry
    refine ⟨ry, ?_⟩
    rw [rep_non rx]
    exact p.go rh (by simp only [Rep]; cases x <;> rfl)
  · exact p.elim
end
end Pm
namespace PySem
section
variable {prog : Program} {w : World} {A : Around} {E : Value → Shared → Prop} {s : Shared} {l : Addr} {xs : Array (Int × Tok)}
theorem iter_intTup {Q : Value → Shared → Prop} (hl : s.heap.IsTuple l (intItems xs))
    (h : ∀ s₂ : Shared, s₂ = { s with heap := s.heap.push { cls := .type "tuple_iterator", data := .fields #[.ref l, .int 0 0] } } →
      (s₂.heap.IsTupleIter s.heap.objs.size l 0 ∧ s₂.heap.IsTuple l (intItems xs)) → (∀ b ∈ [s.heap.objs.size, l], b < s₂.heap.objs.size) → l ≠ s.heap.objs.size → Q (.ref s.heap.objs.size) s₂) :
    wpAny (model prog w) A (pyIter (.ref l)) Q E s := by
  have hlt : l < s.heap.objs.size := by obtain ⟨_, e, _⟩ := hl; exact Heap.lt_size e
  refine wpAny_pyIter_tuple hl (h _ rfl ⟨⟨_, Heap.get?_push_size _ rfl, rfl, rfl⟩, hl.push _⟩ (fun b hb => ?_) (Nat.ne_of_lt hlt))
  show b < (s.heap.push _).objs.size
  rw [Heap.size_push]
  rcases List.mem_cons.mp hb with rfl | hb
  · exact Nat.lt_succ_self _
  · rcases List.mem_cons.mp hb with rfl | hb
    · exact Nat.lt_succ_of_lt hlt
    · cases hb
theorem old_keptT {h' : Heap} (hk : ∀ b o, b ∉ [s.heap.objs.size] → (s.heap.push { cls := .type "tuple_iterator", data := .fields #[.ref l, .int 0 0] }).get? b = some o → h'.get? b = some o) :
    ∀ b o, s.heap.get? b = some o → h'.get? b = some o := fun b o e => by
  refine hk b o (fun hm => ?_) (Heap.get?_push_of_some _ e)
  rcases List.mem_cons.mp hm with e1 | hm
  · exact absurd (e1 ▸ Heap.lt_size e) (Nat.lt_irrefl _)
  · cases hm
theorem sum_intTupG {Q : Value → Shared → Prop} (hh : A.handled = none) (hl : s.heap.IsTuple l (intItems xs))
    (h : ∀ h' tk t', (∀ b o, s.heap.get? b = some o → h'.get? b = some o) → Q (.int (preSum (numAt xs) xs.size) t') { s with heap := h', toks := tk }) :
    wpAny (model prog w) A (call (.builtin "sum") [.ref l]) Q E s := by
  refine call_sum_walkG (iter_intTup hl fun s₂ e st hfp hlI => ?_)
  subst e
  refine ⟨_, _, _, _, _, _, numAt xs, rfl, Walks.tuple (A := A.in1) hh _ l hlI (intItems xs), st, hfp, (fun _ _ => intItems_at), fun h' tk t' hk => ?_⟩
  have := h h' tk t' (old_keptT hk)
  simpa [intItems] using this
theorem max_intTup {Q : Value → Shared → Prop} (hh : A.handled = none) (hl : s.heap.IsTuple l (intItems xs)) (hne : 0 < xs.size)
    (h : ∀ v h' tk, (intItems xs)[argBest (fun i j => decide (numAt xs i > numAt xs j)) (xs.size - 1)]? = some v → (∀ b o, s.heap.get? b = some o → h'.get? b = some o) → Q v { s with heap := h', toks := tk }) :
    wpAny (model prog w) A (call (.builtin "max") [.ref l]) Q E s := by
  refine call_max_walk (iter_intTup hl fun s₂ e st hfp hlI => ?_)
  subst e
  refine ⟨_, _, _, _, _, _, _, rfl, Walks.tuple (A := A.in1) hh _ l hlI (intItems xs), st, hfp, by simpa [intItems] using hne, CmpOf.ints_gt (numAt xs) (fun _ _ => intItems_at), fun v h' tk hP hk => ?_⟩
  exact h v h' tk (by simpa [intItems] using hP) (old_keptT hk)
theorem min_intTup {Q : Value → Shared → Prop} (hh : A.handled = none) (hl : s.heap.IsTuple l (intItems xs)) (hne : 0 < xs.size)
    (h : ∀ v h' tk, (intItems xs)[argBest (fun i j => decide (numAt xs i < numAt xs j)) (xs.size - 1)]? = some v → (∀ b o, s.heap.get? b = some o → h'.get? b = some o) → Q v { s with heap := h', toks := tk }) :
    wpAny (model prog w) A (call (.builtin "min") [.ref l]) Q E s := by
  refine call_min_walk (iter_intTup hl fun s₂ e st hfp hlI => ?_)
  subst e
  refine ⟨_, _, _, _, _, _, _, rfl, Walks.tuple (A := A.in1) hh _ l hlI (intItems xs), st, hfp, by simpa [intItems] using hne, CmpOf.ints_lt (numAt xs) (fun _ _ => intItems_at), fun v h' tk hP hk => ?_⟩
  exact h v h' tk (by simpa [intItems] using hP) (old_keptT hk)
end
end PySem
namespace Pm
open PySem PySem.Spec L2 PyProof.Rows
def rSumT (K : PySem.W.Frag) : List V → Hp → VK → Prop := fun vs H Q => ∃ (a : Addr) (ns : List Int), vs = [V.ref a] ∧ SqT K H a (ns.map V.int) ∧ Q (.int ns.sum) H
theorem cr_sumT {X : Cx} (hc : X.calm = true) : CallR X (.builtin "sum") (rSumT X.K) := by
  intro pins s σ H vs us Q I r h
  obtain ⟨a, ns, rfl, hs, q⟩ := h
  obtain ⟨its, rv, hl, _⟩ := I.tuple hs
  rw [Vals.ref1 r]
  obtain ⟨xs, e⟩ := rv.ints.allInts.items
  have hn : numsOf (intItems xs).toList = ns := by rw [← e]; exact rv.ints.numsOf
  rw [nums_intItems] at hn
  rw [e] at hl
  refine sum_intTupG (I.ok.hd hc) hl fun h' tk t' hk => ?_
  rw [preSum_eq, List.take_of_length_le (by simp), hn]
  exact ⟨.int _, H, I.kept hk, ⟨_, rfl⟩, q⟩
def rMaxT (K : PySem.W.Frag) : List V → Hp → VK → Prop := fun vs H Q => ∃ (a : Addr) (ns : List Int), vs = [V.ref a] ∧ SqT K H a (ns.map V.int) ∧ 0 < ns.length ∧ ∀ m, m ∈ ns → (∀ y, y ∈ ns → y ≤ m) → Q (.int m) H
theorem cr_maxT {X : Cx} (hc : X.calm = true) : CallR X (.builtin "max") (rMaxT X.K) := by
  intro pins s σ H vs us Q I r h
  obtain ⟨a, ns, rfl, hs, hne, q⟩ := h
  obtain ⟨its, rv, hl, _⟩ := I.tuple hs
  rw [Vals.ref1 r]
  obtain ⟨xs, e⟩ := rv.ints.allInts.items
  have hn : numsOf (intItems xs).toList = ns := by rw [← e]; exact rv.ints.numsOf
  rw [nums_intItems] at hn
  subst hn
  rw [e] at hl
  have hsz : 0 < xs.size := by simpa using hne
  refine max_intTup (I.ok.hd hc) hl hsz fun v h' tk hv hk => ?_
  obtain ⟨t, rfl⟩ := intItems_at hv
  obtain ⟨h1, h2⟩ := argBest_gt (numAt xs) (xs.size - 1)
  refine ⟨.int _, H, I.kept hk, ⟨_, rfl⟩, q _ ?_ fun a ha => ?_⟩
  · rw [numAt_eq]; exact PySem.getD_mem (by rw [List.length_map, Array.length_toList]; omega)
  · obtain ⟨j, hj, rfl⟩ := mem_getD ha
    rw [List.length_map, Array.length_toList] at hj
    rw [← numAt_eq]; exact h2 j (by omega)
def rMinT (K : PySem.W.Frag) : List V → Hp → VK → Prop := fun vs H Q => ∃ (a : Addr) (ns : List Int), vs = [V.ref a] ∧ SqT K H a (ns.map V.int) ∧ 0 < ns.length ∧ ∀ m, m ∈ ns → (∀ y, y ∈ ns → m ≤ y) → Q (.int m) H
theorem cr_minT {X : Cx} (hc : X.calm = true) : CallR X (.builtin "min") (rMinT X.K) := by
  intro pins s σ H vs us Q I r h
  obtain ⟨a, ns, rfl, hs, hne, q⟩ := h
  obtain ⟨its, rv, hl, _⟩ := I.tuple hs
  rw [Vals.ref1 r]
  obtain ⟨xs, e⟩ := rv.ints.allInts.items
  have hn : numsOf (intItems xs).toList = ns := by rw [← e]; exact rv.ints.numsOf
  rw [nums_intItems] at hn
  subst hn
  rw [e] at hl
  have hsz : 0 < xs.size := by simpa using hne
  refine min_intTup (I.ok.hd hc) hl hsz fun v h' tk hv hk => ?_
  obtain ⟨t, rfl⟩ := intItems_at hv
  obtain ⟨h1, h2⟩ := argBest_lt (numAt xs) (xs.size - 1)
  refine ⟨.int _, H, I.kept hk, ⟨_, rfl⟩, q _ ?_ fun a ha => ?_⟩
  · rw [numAt_eq]; exact PySem.getD_mem (by rw [List.length_map, Array.length_toList]; omega)
  · obtain ⟨j, hj, rfl⟩ := mem_getD ha
    rw [List.length_map, Array.length_toList] at hj
    rw [← numAt_eq]; exact h2 j (by omega)
end Pm
namespace Pm
open PySem PySem.Spec L2 PyProof.Rows
section
variable {c : Ck} {X : Cx} {W : WX} {pos : Pos} {e : Expr} {es : List Expr} {m : EM} {ms : AM}

/-! ### a call of one value, of two -/
def one (f : PV → VH → Res PV) : List PV → VH → Res PV
  | [x], h => f x h
  | _, _ => .bad
def two (f : PV → PV → VH → Res PV) : List PV → VH → Res PV
  | [x, y], h => f x y h
  | _, _ => .bad
@[simp] theorem one_eq (f : PV → VH → Res PV) (x : PV) (h : VH) : one f [x] h = f x h := (rfl)
@[simp] theorem two_eq (f : PV → PV → VH → Res PV) (x y : PV) (h : VH) : two f [x, y] h = f x y h := (rfl)
theorem one_run {K : Kc} {g : Gh} {h : VH} {xs : List PV} {us : List V} {Q : VK} {E : XK} {f : PV → VH → Res PV} (r : Reps K g h.length xs us) (p : Post K (Rep K) g h.length Q E (one f xs h)) :
    ∃ x u, xs = [x] ∧ us = [u] ∧ Rep K g h.length x u ∧ Post K (Rep K) g h.length Q E (f x h) := by
  unfold one at p
  split at p
  · simp only [Reps] at r
    obtain ⟨u, us', rfl, a, b⟩ := r
    subst b
    exact ⟨_, u, rfl, rfl, a, p⟩
  · exact p.elim
theorem two_args {K : Kc} {g : Gh} {h : VH} {xs : List PV} {us : List V} {Q : VK} {E : XK} {f : PV → PV → VH → Res PV} (r : Reps K g h.length xs us) (p : Post K (Rep K) g h.length Q E (two f xs h)) :
    ∃ x y u v, xs = [x, y] ∧ us = [u, v] ∧ Rep K g h.length x u ∧ Rep K g h.length y v ∧ Post K (Rep K) g h.length Q E (f x y h) := by
  unfold two at p
  split at p
  · simp only [Reps] at r
    obtain ⟨u, us', rfl, a, v, us2, rfl, b, d⟩ := r
    subst d
    exact ⟨_, _, u, v, rfl, rfl, a, b, p⟩
  · exact p.elim

/-! ### len, abs, int -/
def lenP : PV → VH → Res PV
  | .str s, h => if s.length ≤ 16777216 then .ok (.int s.length) h else .bad
  | .tup xs, h => .ok (.int xs.length) h
  | .ref i, h => match h[i]? with
    | some (.lst xs) => .ok (.int xs.length) h
    | some (.dic _ kvs) => .ok (.int kvs.length) h
    | _ => .bad
  | x, h => match lstOf x h with
    | some xs => .ok (.int xs.length) h
    | none => .bad
@[simp] theorem lenP_tup (xs : List PV) (h : VH) : lenP (.tup xs) h = .ok (.int xs.length) h := (rfl)
@[simp] theorem lenP_lst (xs : List PV) (h : VH) : lenP (.lst xs) h = .ok (.int xs.length) h := (rfl)
@[simp] theorem lenP_scr (xs : List PV) (h : VH) : lenP (.scr xs) h = .ok (.int xs.length) h := (rfl)
theorem lenP_str {s : Str} {h : VH} (z : s.length ≤ 16777216) : lenP (.str s) h = .ok (.int s.length) h := if_pos z
theorem lenP_ref {i : Nat} {xs : List PV} {h : VH} (e : h[i]? = some (.lst xs)) : lenP (.ref i) h = .ok (.int xs.length) h := by simp [lenP, e]
theorem lenP_dic {i : Nat} {t : Bool} {xs : List (PV × PV)} {h : VH} (e : h[i]? = some (.dic t xs)) : lenP (.ref i) h = .ok (.int xs.length) h := by simp [lenP, e]
theorem RepD.length {κ : Type} {K : Kc} {g : Gh} {n : Nat} {key : PV → Option κ} : ∀ {kvs : List (PV × PV)} {us : List (κ × V)}, RepD K g n key kvs us → us.length = kvs.length
  | [], _, h => by simp only [RepD] at h; subst h; rfl
  | (k, x) :: xs, _, h => by
    simp only [RepD] at h
    obtain ⟨k', u, r, rfl, _, _, b⟩ := h
    rw [List.length_cons, List.length_cons, RepD.length b]
def rLenAll (K : PySem.W.Frag) : List V → Hp → VK → Prop := fun xs H Q => (∃ p ys, xs = [.ref p] ∧ (SqL K H p ys ∨ SqT K H p ys) ∧ Q (.int ys.length) H) ∨ (∃ z, xs = [.str z] ∧ z.length ≤ sizeLine ∧ Q (.int z.length) H) ∨
  (∃ a kvs, xs = [V.ref a] ∧ H a = some (.dK kvs) ∧ Q (.int kvs.length) H) ∨ rLenT xs H Q
theorem call_lenAll : CallR X (.builtin "len") (rLenAll X.K) := call_len_seq.or (call_len_str.or (call_lenD.or call_len_dT))
theorem lenS : CallS c X (rLenAll X.K) (one lenP) := fun g h H xs us Q E r rh p => by
  obtain ⟨x, u, rfl, rfl, rx, p⟩ := one_run r p
  have seq : ∀ {xs : List PV}, lstOf x h = some xs → Post (kx c X) (Rep (kx c X)) g h.length Q E (.ok (.int xs.length) h) → rLenAll X.K [u] H Q := fun {xs} e q => by
    obtain ⟨a, us, rfl, s, r1⟩ := lstOf_run rx rh e
    exact .inl ⟨a, us, rfl, .inl s, by rw [r1.length]; exact q.go rh repI⟩
  unfold lenP at p
  split at p
  · split at p
    · simp only [Rep] at rx
      exact .inr (.inl ⟨_, by rw [rx], by rw [sizeLine_eq]; assumption, p.go rh repI⟩)
    · exact p.elim
  · obtain ⟨a, us, rfl, s, r1⟩ := tup_run rx rh
    exact .inl ⟨a, us, rfl, .inr (.inl (.inl s)), by rw [r1.length]; exact p.go rh repI⟩
  · split at p
    · rename_i e; exact seq (lstOf_ref e) p
    · rename_i t kvs e
      simp only [Rep] at rx
      obtain ⟨o, ho, ro⟩ := rh.cell _ _ e (by intro z; cases z)
      cases t with
      | false =>
        obtain ⟨ws, rfl, rd⟩ := ro
        exact .inr (.inr (.inl ⟨_, ws, by rw [rx.2], ho, by rw [rd.length]; exact p.go rh repI⟩))
      | true =>
        obtain ⟨ws, rfl, rd⟩ := ro
        exact .inr (.inr (.inr ⟨_, ws, by rw [rx.2], ho, by rw [rd.length]; exact p.go rh repI⟩))
    · exact p.elim
  · split at p
    · rename_i e; exact seq e p
    · exact p.elim
def absP : PV → VH → Res PV
  | .int i, h => .ok (.int (if i < 0 then -i else i)) h
  | _, _ => .bad
@[simp] theorem absP_int (i : Int) (h : VH) : absP (.int i) h = .ok (.int (if i < 0 then -i else i)) h := (rfl)
theorem absS : CallS c X (fun xs H Q => ∃ i, xs = [.int i] ∧ Q (.int (if i < 0 then -i else i)) H) (one absP) := fun g h H xs us Q E r rh p => by
  obtain ⟨x, u, rfl, rfl, rx, p⟩ := one_run r p
  cases x with
  | int i => simp only [Rep] at rx; exact ⟨i, by rw [rx], p.go rh repI⟩
  | _ => exact p.elim
def intP : PV → VH → Res PV
  | .int i, h => .ok (.int i) h
  | .bl b, h => .ok (.int (if b = true then 1 else 0)) h
  | .str s, h => match PySem.intText? s with
    | some n => if s.length ≤ 640 then .ok (.int n) h else .bad
    | none => .bad
  | _, _ => .bad
@[simp] theorem intP_int (i : Int) (h : VH) : intP (.int i) h = .ok (.int i) h := (rfl)
@[simp] theorem intP_bl (b : Bool) (h : VH) : intP (.bl b) h = .ok (.int (if b = true then 1 else 0)) h := (rfl)
def rIntAll : List V → Hp → VK → Prop := fun xs H Q => ((∃ i, xs = [.int i] ∧ Q (.int i) H) ∨ ∃ k, xs = [.bl k] ∧ Q (.int (if k then 1 else 0)) H) ∨ ∃ a n, xs = [.str a] ∧ PySem.intText? a = some n ∧ a.length ≤ 640 ∧ Q (.int n) H
theorem call_intAll : CallR X (.type "int") rIntAll := call_int1.or call_int_str
theorem intS : CallS c X rIntAll (one intP) := fun g h H xs us Q E r rh p => by
  obtain ⟨x, u, rfl, rfl, rx, p⟩ := one_run r p
  cases x with
  | int i => simp only [Rep] at rx; exact .inl (.inl ⟨i, by rw [rx], p.go rh repI⟩)
  | bl i => simp only [Rep] at rx; exact .inl (.inr ⟨i, by rw [rx], p.go rh repI⟩)
  | str s =>
    simp only [Rep] at rx
    unfold intP at p
    dsimp only at p
    split at p
    · rename_i n e
      split at p
      · exact .inr ⟨s, n, by rw [rx], e, by assumption, p.go rh repI⟩
      · exact p.elim
    · exact p.elim
  | _ => exact p.elim
def strP : PV → VH → Res PV
  | .int i, h => if i.natAbs.log2 < 1920 then .ok (.str (toString i)) h else .bad
  | .str s, h => .ok (.str s) h
  | _, _ => .bad
@[simp] theorem strP_str (s : Str) (h : VH) : strP (.str s) h = .ok (.str s) h := (rfl)
theorem strP_int {i : Int} {h : VH} (z : i.natAbs.log2 < 1920) : strP (.int i) h = .ok (.str (toString i)) h := if_pos z
def rStrAll : List V → Hp → VK → Prop := fun xs H Q => (∃ i, xs = [.int i] ∧ i.natAbs.log2 < 1920 ∧ Q (.str (toString i)) H) ∨ ∃ a, xs = [.str a] ∧ Q (.str a) H
theorem call_strAll : CallR X (.type "str") rStrAll := call_str_int.or SkE.call_str_str
theorem strS : CallS c X rStrAll (one strP) := fun g h H xs us Q E r rh p => by
  obtain ⟨x, u, rfl, rfl, rx, p⟩ := one_run r p
  cases x with
  | int i =>
    simp only [Rep] at rx
    unfold strP at p
    dsimp only at p
    split at p
    · exact .inl ⟨i, by rw [rx], by assumption, p.go rh repS⟩
    · exact p.elim
  | str i => simp only [Rep] at rx; exact .inr ⟨i, by rw [rx], p.go rh repS⟩
  | _ => exact p.elim

/-! ### list, tuple -/
def tupleP : PV → VH → Res PV
  | .tup xs, h => .ok (.tup xs) h
  | x, h => match lstOf x h with
    | some xs => .ok (.tup xs) h
    | none => .bad
@[simp] theorem tupleP_tup (xs : List PV) (h : VH) : tupleP (.tup xs) h = .ok (.tup xs) h := (rfl)
@[simp] theorem tupleP_lst (xs : List PV) (h : VH) : tupleP (.lst xs) h = .ok (.tup xs) h := (rfl)
@[simp] theorem tupleP_scr (xs : List PV) (h : VH) : tupleP (.scr xs) h = .ok (.tup xs) h := (rfl)
theorem tupleP_ref {i : Nat} {xs : List PV} {h : VH} (e : h[i]? = some (.lst xs)) : tupleP (.ref i) h = .ok (.tup xs) h := by simp [tupleP, lstOf, e]
theorem tupleS : CallS c X (fun xs H Q => ∃ p ys, xs = [.ref p] ∧ ((SqL X.K H p ys ∧ ∀ l, H l = none → Q (.ref l) (upd H l (.tup ys))) ∨ (SqT X.K H p ys ∧ Q (.ref p) H))) (one tupleP) := fun g h H xs us Q E r rh p => by
  obtain ⟨x, u, rfl, rfl, rx, p⟩ := one_run r p
  unfold tupleP at p
  split at p
  · obtain ⟨a, us, rfl, s, r1⟩ := tup_run rx rh
    exact ⟨a, us, rfl, .inr ⟨.inl (.inl s), p.go rh rx⟩⟩
  · split at p
    · rename_i e
      obtain ⟨a, us, rfl, s, r1⟩ := lstOf_run rx rh e
      exact ⟨a, us, rfl, .inl ⟨s, tup_new rh r1 p⟩⟩
    · exact p.elim
def listP (cell : Bool) (x : PV) (h : VH) : Res PV := match seqOf x h with
    | some xs => mkL cell xs h
    | none => .bad
@[simp] theorem listP_tup (cell : Bool) (xs : List PV) (h : VH) : listP cell (.tup xs) h = mkL cell xs h := (rfl)
@[simp] theorem listP_lst (cell : Bool) (xs : List PV) (h : VH) : listP cell (.lst xs) h = mkL cell xs h := (rfl)
@[simp] theorem listP_scr (cell : Bool) (xs : List PV) (h : VH) : listP cell (.scr xs) h = mkL cell xs h := (rfl)
theorem listP_ref {cell : Bool} {i : Nat} {xs : List PV} {h : VH} (e : h[i]? = some (.lst xs)) : listP cell (.ref i) h = mkL cell xs h := by simp [listP, seqOf_ref e]
theorem listS (cell : Bool) : CallS c X (fun xs H Q => ∃ p ys, xs = [.ref p] ∧ (SqL X.K H p ys ∨ SqT X.K H p ys) ∧ ∀ l, H l = none → Q (.ref l) (upd H l (.lst ys))) (one (listP cell)) := fun g h H xs us Q E r rh p => by
  obtain ⟨x, u, rfl, rfl, rx, p⟩ := one_run r p
  unfold listP at p
  split at p
  · rename_i e
    obtain ⟨a, us, rfl, s, r1⟩ := seqOf_run rx rh e
    exact ⟨a, us, rfl, s, mkL_new rh r1 p⟩
  · exact p.elim

/-! ### sum, max, min, any, all, sorted -/
def intsOf : List PV → Option (List Int)
  | [] => some []
  | .int i :: r => (intsOf r).map (i :: ·)
  | _ :: _ => none
@[simp] theorem intsOf_map : ∀ ns : List Int, intsOf (ns.map PV.int) = some ns
  | [] => rfl
  | i :: ns => by show (intsOf (ns.map PV.int)).map (i :: ·) = _; rw [intsOf_map ns]; rfl
theorem intsOf_eq : ∀ {xs : List PV} {ns : List Int}, intsOf xs = some ns → xs = ns.map PV.int
  | [], _, e => by cases e; rfl
  | x :: r, ns, e => by
    cases x with
    | int i =>
      obtain ⟨ms, e1, rfl⟩ := Option.map_eq_some_iff.mp (show (intsOf r).map (i :: ·) = some ns from e)
      rw [intsOf_eq e1]; rfl
    | _ => cases e
def blsOf : List PV → Option (List Bool)
  | [] => some []
  | .bl i :: r => (blsOf r).map (i :: ·)
  | _ :: _ => none
@[simp] theorem blsOf_map : ∀ ns : List Bool, blsOf (ns.map PV.bl) = some ns
  | [] => rfl
  | i :: ns => by show (blsOf (ns.map PV.bl)).map (i :: ·) = _; rw [blsOf_map ns]; rfl
theorem blsOf_eq : ∀ {xs : List PV} {ns : List Bool}, blsOf xs = some ns → xs = ns.map PV.bl
  | [], _, e => by cases e; rfl
  | x :: r, ns, e => by
    cases x with
    | bl i =>
      obtain ⟨ms, e1, rfl⟩ := Option.map_eq_some_iff.mp (show (blsOf r).map (i :: ·) = some ns from e)
      rw [blsOf_eq e1]; rfl
    | _ => cases e
def intsIn (x : PV) (h : VH) : Option (List Int) := (lstOf x h).bind intsOf
def blsIn (x : PV) (h : VH) : Option (List Bool) := (lstOf x h).bind blsOf
@[simp] theorem intsIn_lst (xs : List PV) (h : VH) : intsIn (.lst xs) h = intsOf xs := (rfl)
@[simp] theorem blsIn_lst (xs : List PV) (h : VH) : blsIn (.lst xs) h = blsOf xs := (rfl)
theorem intsIn_ref {i : Nat} {xs : List PV} {h : VH} (e : h[i]? = some (.lst xs)) : intsIn (.ref i) h = intsOf xs := by simp [intsIn, lstOf_ref e]
theorem intsIn_run {K : Kc} {g : Gh} {h : VH} {H : Hp} {x : PV} {u : V} {ns : List Int} (rx : Rep K g h.length x u) (rh : RelH K g h H) (e : intsIn x h = some ns) : ∃ a, u = .ref a ∧ SqL K.K H a (ns.map V.int) := by
  obtain ⟨xs, e1, e2⟩ := Option.bind_eq_some_iff.mp e
  obtain ⟨a, us, rfl, s, r⟩ := lstOf_run rx rh e1
  rw [intsOf_eq e2] at r
  rw [r.ints_eq] at s
  exact ⟨a, rfl, s⟩
theorem blsIn_run {K : Kc} {g : Gh} {h : VH} {H : Hp} {x : PV} {u : V} {ns : List Bool} (rx : Rep K g h.length x u) (rh : RelH K g h H) (e : blsIn x h = some ns) : ∃ a, u = .ref a ∧ SqL K.K H a (ns.map V.bl) := by
  obtain ⟨xs, e1, e2⟩ := Option.bind_eq_some_iff.mp e
  obtain ⟨a, us, rfl, s, r⟩ := lstOf_run rx rh e1
  rw [blsOf_eq e2] at r
  rw [r.bls_eq] at s
  exact ⟨a, rfl, s⟩
def sumP (x : PV) (h : VH) : Res PV := match (seqOf x h).bind intsOf with
  | some ns => .ok (.int ns.sum) h
  | none => .bad
theorem sumP_ok {x : PV} {h : VH} {ns : List Int} (e : (seqOf x h).bind intsOf = some ns) : sumP x h = .ok (.int ns.sum) h := by simp [sumP, e]
@[simp] theorem sumP_ints (ns : List Int) (h : VH) : sumP (.lst (ns.map PV.int)) h = .ok (.int ns.sum) h := sumP_ok (by simp)
@[simp] theorem sumP_tints (ns : List Int) (h : VH) : sumP (.tup (ns.map PV.int)) h = .ok (.int ns.sum) h := sumP_ok (by simp)
def rSumA (K : PySem.W.Frag) : List V → Hp → VK → Prop := fun vs H Q => rSum K vs H Q ∨ rSumT K vs H Q
theorem cr_sumA (hc : X.calm = true) : CallR X (.builtin "sum") (rSumA X.K) := (cr_sum hc).or (cr_sumT hc)
theorem sumS : CallS c X (rSumA X.K) (one sumP) := fun g h H xs us Q E r rh p => by
  obtain ⟨x, u, rfl, rfl, rx, p⟩ := one_run r p
  unfold sumP at p
  split at p
  · rename_i ns e
    obtain ⟨ys, e1, e2⟩ := Option.bind_eq_some_iff.mp e
    obtain ⟨a, us, rfl, s, r⟩ := seqOf_run rx rh e1
    rw [intsOf_eq e2] at r
    rw [r.ints_eq] at s
    rcases s with s | s
    · exact .inl ⟨a, ns, rfl, s, p.go rh repI⟩
    · exact .inr ⟨a, ns, rfl, s, p.go rh repI⟩
  · exact p.elim
def maxL : List Int → Int
  | [] => 0
  | x :: r => r.foldl max x
def minL : List Int → Int
  | [] => 0
  | x :: r => r.foldl min x
theorem foldl_max_ge : ∀ (r : List Int) (x : Int), x ≤ r.foldl max x ∧ (∀ y ∈ r, y ≤ r.foldl max x) ∧ (r.foldl max x = x ∨ r.foldl max x ∈ r)
  | [], x => ⟨Int.le_refl _, (fun _ z => by cases z), .inl rfl⟩
  | y :: r, x => by
    obtain ⟨h1, h2, h3⟩ := foldl_max_ge r (max x y)
    refine ⟨by simp only [List.foldl_cons]; omega, fun z hz => ?_, ?_⟩
    · simp only [List.foldl_cons]
      rcases List.mem_cons.mp hz with rfl | hz
      · omega
      · exact h2 z hz
    · simp only [List.foldl_cons]
      rcases h3 with h3 | h3
      · rw [h3]
        rcases Int.le_total x y with q | q
        · exact .inr (by rw [Int.max_eq_right q]; exact List.mem_cons_self)
        · exact .inl (Int.max_eq_left q)
      · exact .inr (List.mem_cons_of_mem _ h3)
theorem foldl_min_le : ∀ (r : List Int) (x : Int), r.foldl min x ≤ x ∧ (∀ y ∈ r, r.foldl min x ≤ y) ∧ (r.foldl min x = x ∨ r.foldl min x ∈ r)
  | [], x => ⟨Int.le_refl _, (fun _ z => by cases z), .inl rfl⟩
  | y :: r, x => by
    obtain ⟨h1, h2, h3⟩ := foldl_min_le r (min x y)
    refine ⟨by simp only [List.foldl_cons]; omega, fun z hz => ?_, ?_⟩
    · simp only [List.foldl_cons]
      rcases List.mem_cons.mp hz with rfl | hz
      · omega
      · exact h2 z hz
    · simp only [List.foldl_cons]
      rcases h3 with h3 | h3
      · rw [h3]
        rcases Int.le_total x y with q | q
        · exact .inl (Int.min_eq_left q)
        · exact .inr (by rw [Int.min_eq_right q]; exact List.mem_cons_self)
      · exact .inr (List.mem_cons_of_mem _ h3)
theorem maxL_spec {ns : List Int} (h : ns ≠ []) : maxL ns ∈ ns ∧ ∀ y ∈ ns, y ≤ maxL ns := by
  cases ns with
  | nil => exact absurd rfl h
  | cons x r =>
    obtain ⟨h1, h2, h3⟩ := foldl_max_ge r x
    refine ⟨?_, fun y hy => ?_⟩
    · rcases h3 with h3 | h3
      · show r.foldl max x ∈ x :: r
        rw [h3]; exact List.mem_cons_self
      · exact List.mem_cons_of_mem _ h3
    · rcases List.mem_cons.mp hy with rfl | hy
      · exact h1
      · exact h2 y hy
theorem minL_spec {ns : List Int} (h : ns ≠ []) : minL ns ∈ ns ∧ ∀ y ∈ ns, minL ns ≤ y := by
  cases ns with
  | nil => exact absurd rfl h
  | cons x r =>
    obtain ⟨h1, h2, h3⟩ := foldl_min_le r x
    refine ⟨?_, fun y hy => ?_⟩
    · rcases h3 with h3 | h3
      · show r.foldl min x ∈ x :: r
        rw [h3]; exact List.mem_cons_self
      · exact List.mem_cons_of_mem _ h3
    · rcases List.mem_cons.mp hy with rfl | hy
      · exact h1
      · exact h2 y hy
def maxP : List PV → VH → Res PV
  | [.int i, .int j], h => .ok (.int (if j > i then j else i)) h
  | [x], h => match (seqOf x h).bind intsOf with
    | some (n :: ns) => .ok (.int (maxL (n :: ns))) h
    | _ => .bad
  | _, _ => .bad
def minP : List PV → VH → Res PV
  | [.int i, .int j], h => .ok (.int (if j < i then j else i)) h
  | [x], h => match (seqOf x h).bind intsOf with
    | some (n :: ns) => .ok (.int (minL (n :: ns))) h
    | _ => .bad
  | _, _ => .bad
@[simp] theorem maxP_two (i j : Int) (h : VH) : maxP [.int i, .int j] h = .ok (.int (if j > i then j else i)) h := (rfl)
@[simp] theorem minP_two (i j : Int) (h : VH) : minP [.int i, .int j] h = .ok (.int (if j < i then j else i)) h := (rfl)
theorem maxP_ok {x : PV} {h : VH} {ns : List Int} (e : (seqOf x h).bind intsOf = some ns) (z : ns ≠ []) : maxP [x] h = .ok (.int (maxL ns)) h := by
  cases ns with
  | nil => exact absurd rfl z
  | cons n ns => simp [maxP, e]
theorem minP_ok {x : PV} {h : VH} {ns : List Int} (e : (seqOf x h).bind intsOf = some ns) (z : ns ≠ []) : minP [x] h = .ok (.int (minL ns)) h := by
  cases ns with
  | nil => exact absurd rfl z
  | cons n ns => simp [minP, e]
def rMaxAll (K : PySem.W.Frag) : List V → Hp → VK → Prop := fun xs H Q => (∃ i j, xs = [.int i, .int j] ∧ Q (.int (if j > i then j else i)) H) ∨ rMax K xs H Q ∨ rMaxT K xs H Q
def rMinAll (K : PySem.W.Frag) : List V → Hp → VK → Prop := fun xs H Q => (∃ i j, xs = [.int i, .int j] ∧ Q (.int (if j < i then j else i)) H) ∨ rMin K xs H Q ∨ rMinT K xs H Q
theorem call_maxAll (hc : X.calm = true) : CallR X (.builtin "max") (rMaxAll X.K) := (call_max2 hc).or ((cr_max hc).or (cr_maxT hc))
theorem call_minAll (hc : X.calm = true) : CallR X (.builtin "min") (rMinAll X.K) := (call_min2 hc).or ((cr_min hc).or (cr_minT hc))
theorem Reps.one {K : Kc} {g : Gh} {n : Nat} {x : PV} {us : List V} (r : Reps K g n [x] us) : ∃ u, us = [u] ∧ Rep K g n x u := by
  simp only [Reps] at r
  obtain ⟨u, us', rfl, a, b⟩ := r
  subst b
  exact ⟨u, rfl, a⟩
theorem Reps.two {K : Kc} {g : Gh} {n : Nat} {x y : PV} {us : List V} (r : Reps K g n [x, y] us) : ∃ u v, us = [u, v] ∧ Rep K g n x u ∧ Rep K g n y v := by
  simp only [Reps] at r
  obtain ⟨u, us', rfl, a, v, us2, rfl, b, d⟩ := r
  subst d
  exact ⟨u, v, rfl, a, b⟩
theorem maxS : CallS c X (rMaxAll X.K) maxP := fun g h H xs us Q E r rh p => by
  unfold maxP at p
  split at p
  · obtain ⟨u, v, rfl, a, b⟩ := r.two
    simp only [Rep] at a b
    exact .inl ⟨_, _, by rw [a, b], p.go rh repI⟩
  · obtain ⟨u, rfl, rx⟩ := r.one
    split at p
    · rename_i n ns e
      obtain ⟨ys, e1, e2⟩ := Option.bind_eq_some_iff.mp e
      obtain ⟨a, us, rfl, s, r⟩ := seqOf_run rx rh e1
      rw [intsOf_eq e2] at r
      rw [r.ints_eq] at s
      have fin : ∀ m, m ∈ n :: ns → (∀ y, y ∈ n :: ns → y ≤ m) → Q (.int m) H := fun m hm hall => by
        obtain ⟨q1, q2⟩ := maxL_spec (ns := n :: ns) (by simp)
        have : m = maxL (n :: ns) := by have := q2 m hm; have := hall _ q1; omega
        rw [this]; exact p.go rh repI
      rcases s with s | s
      · exact .inr (.inl ⟨a, _, rfl, s, by simp, fin⟩)
      · exact .inr (.inr ⟨a, _, rfl, s, by simp, fin⟩)
    · exact p.elim
  · exact p.elim
theorem minS : CallS c X (rMinAll X.K) minP := fun g h H xs us Q E r rh p => by
  unfold minP at p
  split at p
  · obtain ⟨u, v, rfl, a, b⟩ := r.two
    simp only [Rep] at a b
    exact .inl ⟨_, _, by rw [a, b], p.go rh repI⟩
  · obtain ⟨u, rfl, rx⟩ := r.one
    split at p
    · rename_i n ns e
      obtain ⟨ys, e1, e2⟩ := Option.bind_eq_some_iff.mp e
      obtain ⟨a, us, rfl, s, r⟩ := seqOf_run rx rh e1
      rw [intsOf_eq e2] at r
      rw [r.ints_eq] at s
      have fin : ∀ m, m ∈ n :: ns → (∀ y, y ∈ n :: ns → m ≤ y) → Q (.int m) H := fun m hm hall => by
        obtain ⟨q1, q2⟩ := minL_spec (ns := n :: ns) (by simp)
        have : m = minL (n :: ns) := by have := q2 m hm; have := hall _ q1; omega
        rw [this]; exact p.go rh repI
      rcases s with s | s
      · exact .inr (.inl ⟨a, _, rfl, s, by simp, fin⟩)
      · exact .inr (.inr ⟨a, _, rfl, s, by simp, fin⟩)
    · exact p.elim
  · exact p.elim
def anyP (x : PV) (h : VH) : Res PV := match blsIn x h with
  | some ns => .ok (.bl (ns.any id)) h
  | none => .bad
def allP (x : PV) (h : VH) : Res PV := match blsIn x h with
  | some ns => .ok (.bl (ns.all id)) h
  | none => .bad
@[simp] theorem anyP_bls (ns : List Bool) (h : VH) : anyP (.lst (ns.map PV.bl)) h = .ok (.bl (ns.any id)) h := by simp [anyP]
@[simp] theorem allP_bls (ns : List Bool) (h : VH) : allP (.lst (ns.map PV.bl)) h = .ok (.bl (ns.all id)) h := by simp [allP]
theorem anyS : CallS c X (rAny X.K) (one anyP) := fun g h H xs us Q E r rh p => by
  obtain ⟨x, u, rfl, rfl, rx, p⟩ := one_run r p
  unfold anyP at p
  split at p
  · rename_i ns e
    obtain ⟨a, rfl, s⟩ := blsIn_run rx rh e
    exact ⟨a, ns, rfl, s, p.go rh repB⟩
  · exact p.elim
theorem allS : CallS c X (rAll X.K) (one allP) := fun g h H xs us Q E r rh p => by
  obtain ⟨x, u, rfl, rfl, rx, p⟩ := one_run r p
  unfold allP at p
  split at p
  · rename_i ns e
    obtain ⟨a, rfl, s⟩ := blsIn_run rx rh e
    exact ⟨a, ns, rfl, s, p.go rh repB⟩
  · exact p.elim
/-- the same numbers, rising -/
def sortI (ns : List Int) : List Int := ns.mergeSort (fun a b => decide (a ≤ b))
theorem sortI_perm (ns : List Int) : (sortI ns).Perm ns := List.mergeSort_perm _ _
theorem sortI_le (ns : List Int) : (sortI ns).Pairwise (· ≤ ·) := by
  have := List.pairwise_mergeSort (le := fun a b : Int => decide (a ≤ b)) (fun a b c h1 h2 => by simp only [decide_eq_true_eq] at *; omega) (fun a b => by simp only [Bool.or_eq_true, decide_eq_true_eq]; omega) ns
  exact this.imp fun h => by simpa using h
theorem sorted_uniq : ∀ {a b : List Int}, a.Perm b → a.Pairwise (· ≤ ·) → b.Pairwise (· ≤ ·) → a = b := fun {a b} hp ha hb =>
  List.Perm.eq_of_pairwise (le := fun x y : Int => x ≤ y) (fun x y _ _ h1 h2 => Int.le_antisymm h1 h2) ha hb hp
def sortedP (cell : Bool) (x : PV) (h : VH) : Res PV := match intsIn x h with
  | some ns => mkL cell ((sortI ns).map PV.int) h
  | none => .bad
theorem sortedP_ok {cell : Bool} {x : PV} {h : VH} {ns : List Int} (e : intsIn x h = some ns) : sortedP cell x h = mkL cell ((sortI ns).map PV.int) h := by simp [sortedP, e]
theorem sortedS (cell : Bool) : CallS c X (rSortedI X.K) (one (sortedP cell)) := fun g h H xs us Q E r rh p => by
  obtain ⟨x, u, rfl, rfl, rx, p⟩ := one_run r p
  unfold sortedP at p
  split at p
  · rename_i ns e
    obtain ⟨a, rfl, s⟩ := intsIn_run rx rh e
    refine ⟨a, ns, rfl, s, fun ns' q hp hs nq => ?_⟩
    have : ns' = sortI ns := sorted_uniq (hp.trans (sortI_perm ns).symm) hs (sortI_le ns)
    rw [this]
    exact mkL_new rh (Reps.ints _) p q nq
  · exact p.elim
end
end Pm
namespace Pm
open PySem PySem.Spec L2 PyProof.Rows

/-! ### t[::-1] of a tuple -/
section
variable {prog : Program} {w : World} {A : Around} {E : Value → Shared → Prop} {s : Shared}
theorem places_rev (n : Nat) : Builtin.Slice.slicePlaces ((n : Int) - 1) (-1) (-1) = n := by
  unfold Builtin.Slice.slicePlaces
  have h1 : ¬ ((-1 : Int) > 0) := by omega
  simp only [h1, if_false]
  split
  · have e : ((n : Int) - 1 - -1 - 1) / (- -1) = (n : Int) - 1 := by
      rw [show (- -1 : Int) = 1 by decide, Int.ediv_one]; omega
    first
      | (rw [e]; omega)
      | (simp only [show (- -1 : Int) = 1 by decide, Int.ediv_one]; omega)
  · omega
theorem applied_rev {sl : Addr} {vs : Value} {n : Nat} {Q : Int × Int × Nat → Shared → Prop} (hs : s.heap.IsSliceOf sl .none .none vs) (ps : IsPart vs (some (-1)))
    (h : Q ((n : Int) - 1, -1, n) s) : wpAny (model prog w) A (Builtin.Slice.sliceApplied (.ref sl) (pure (n : Int))) Q E s := by
  obtain ⟨os, hos, hcs, hds⟩ := id hs
  unfold Builtin.Slice.sliceApplied Builtin.Slice.sliceFields
  refine wpAny_bind (wpAny_bind (wpAny_field hos hds (x := .none) rfl (wpAny_bind (wpAny_field hos hds (x := .none) rfl (wpAny_bind (wpAny_field hos hds (x := vs) rfl (wpAny_pure ?_)))))))
  refine wpAny_bind (HT.slicePart_ ps ?_)
  show wpAny _ _ (if ((-1 : Int) == 0) = true then _ else _) _ _ s
  rw [if_neg (by decide)]
  refine wpAny_bind (slicePart_none (wpAny_bind (slicePart_none (wpAny_bind (wpAny_pure ?_)))))
  show wpAny _ _ (match Builtin.Slice.sliceAdjust none none (-1) (n : Int) with | (lo, hi) => pure (lo, (-1 : Int), Builtin.Slice.slicePlaces lo hi (-1))) _ _ s
  have ea : Builtin.Slice.sliceAdjust none none (-1) (n : Int) = ((n : Int) - 1, -1) := by
    unfold Builtin.Slice.sliceAdjust
    simp
  rw [ea]
  show wpAny _ _ (pure ((n : Int) - 1, (-1 : Int), Builtin.Slice.slicePlaces ((n : Int) - 1) (-1) (-1))) _ _ s
  rw [places_rev]
  exact wpAny_pure h
theorem pick_rev (xs : Array Value) : ((List.range xs.size).filterMap fun (m : Nat) => xs[((xs.size : Int) - 1 + (m : Int) * (-1)).toNat]?).toArray = xs.toList.reverse.toArray := by
  have e : ((List.range xs.size).filterMap fun (m : Nat) => xs[((xs.size : Int) - 1 + (m : Int) * (-1)).toNat]?) = ((List.range xs.size).map fun k => xs.size - 1 - k).filterMap (xs[·]?) := by
    rw [List.filterMap_map]
    have gen : ∀ l : List Nat, (∀ k ∈ l, k < xs.size) → (l.filterMap fun (m : Nat) => xs[((xs.size : Int) - 1 + (m : Int) * (-1)).toNat]?) = l.filterMap ((xs[·]?) ∘ fun k => xs.size - 1 - k) := by
      intro l
      induction l with
      | nil => intro _; rfl
      | cons k l ih =>
        intro hl
        have hk := hl k List.mem_cons_self
        have ek : ((xs.size : Int) - 1 + (k : Int) * (-1)).toNat = xs.size - 1 - k := by omega
        simp only [List.filterMap_cons, ek, Function.comp, ih fun j hj => hl j (List.mem_cons_of_mem _ hj)]
    exact gen _ fun k hk => List.mem_range.mp hk
  rw [e, PySem.W.krv_range, List.filterMap_reverse, PySem.W.krv_all]
theorem item_rev {t sl : Addr} {items : Array Value} {vs : Value} {Q : Value → Shared → Prop} (ht : IsTup s.heap t items) (hs : s.heap.IsSliceOf sl .none .none vs) (ps : IsPart vs (some (-1)))
    (h : Q (.ref s.heap.objs.size) { s with heap := s.heap.push { cls := .type "tuple", data := .seq items.toList.reverse.toArray } }) (hsz : items.size ≤ sizeLine) : wpAny (model prog w) A (getItem (.ref t) (.ref sl)) Q E s := by
  have htake : sizeOk (.seq items.toList.reverse.toArray) := by
    show items.toList.reverse.toArray.size ≤ sizeLine
    rw [List.size_toArray, List.length_reverse, Array.length_toList]; exact hsz
  obtain ⟨os, hos, hcs, hds⟩ := id hs
  have hT : s.TypeIs (.ref sl) "slice" := ⟨os, hos, hcs⟩
  unfold getItem
  try with_reducible refine wpAny_holding ?_
  first | refine wpAny_bind (wpAny_pure ?_) | skip
  refine wpAny_bind (wpAny_sequenceKey ht.typeIs (by decide) (wpAny_bind (wpAny_callSpecial?_slot (name := Str.ofString "__getitem__") ht.typeIs PyProof.Rows.slot_tuple_getitem (wpAny_call_entry PyProof.Rows.slot_tuple_getitem ht.typeIs entry_tuple_getitem ?_ (args_tuple_getitem _ _)))))
  show wpAny _ _ (Builtin.Tuple.tupleItemsOf (.ref t) >>= _) _ _ s
  refine wpAny_bind (tupleItemsOf_ ht (wpAny_bind (wpAny_typeOf hT ?_)))
  rw [if_pos (by decide)]
  refine wpAny_bind (applied_rev hs ps ?_)
  have hno : ¬ (((items.size : Int) - 1 == 0 && (-1 : Int) == 1 && items.size == items.size) = true) := by simp
  show wpAny _ _ (if ((items.size : Int) - 1 == 0 && (-1 : Int) == 1 && items.size == items.size) = true then _ else _) _ _ s
  rw [if_neg hno, pick_rev]
  first
    | exact wpAny_bind (m := Builtin.Tuple.tupleExact _) (wpAny_newObj_type (wpAny_pure ⟨_, rfl, wpAny_pure h⟩) htake)
    | exact wpAny_bind (m := Builtin.Tuple.tupleExact _) (wpAny_newObj_type (wpAny_bind (wpAny_pure (wpAny_pure ⟨_, rfl, wpAny_pure h⟩))) htake)
    | exact wpAny_bind (wpAny_bind (m := Builtin.Tuple.tupleExact _) (wpAny_newObj_type (wpAny_pure (wpAny_pure ⟨_, rfl, wpAny_pure h⟩)) htake))
    | exact wpAny_bind (wpAny_bind (m := Builtin.Tuple.tupleExact _) (wpAny_newObj_type (wpAny_pure ⟨_, rfl, wpAny_pure h⟩) htake))
end
section
variable {X : Cx}
def tRevA (K : PySem.W.Frag) (te : TE) : TE := fun σ H Q => te σ H fun x H1 => ∃ a xs, x = .ref a ∧ ((SqL K H1 a xs ∧ ∀ p, H1 p = none → Q (.ref p) (upd H1 p (.lst xs.reverse))) ∨ (SqT K H1 a xs ∧ ∀ p, H1 p = none → Q (.ref p) (upd H1 p (.tup xs.reverse))))
theorem pe_revA {e : Expr} {te : TE} {k : Nat} {p1 p2 p3 pos : Pos} (he : PE X e te) : PE X (.Subscript e (.Slice none none (some (.UnaryOp .USub (.Constant (.int 1) k p1) p2)) p3) pos) (tRevA X.K te) := by
  refine ⟨fun pins s σ H Q I h => Subscript_ (thn (he.run pins s σ H _ I h) fun v s1 ⟨x, H1, I1, r1, a, xs, ex, q⟩ => ?_)⟩
  subst ex
  cases r1
  have hst : L2.PO X (some (.UnaryOp .USub (.Constant (.int 1) k p1) p2)) (tPart (tUn (rU fun i => .int (-i)) (tC (.int 1)))) := po_some (pe_un un_neg pe_int)
  refine wpAny_Slice (thn (po_none.run pins s1 σ H1 (fun o H2 => o = none ∧ H2 = H1) I1 ⟨rfl, rfl⟩) fun vl s2 ⟨l, H2, I2, pl, el, e2⟩ => ?_)
  subst el e2
  refine thn (po_none.run pins s2 σ H2 (fun o H3 => o = none ∧ H3 = H2) I2 ⟨rfl, rfl⟩) fun vu s3 ⟨u, H3, I3, pu, eu, e3⟩ => ?_
  subst eu e3
  refine thn (hst.run pins s3 σ H3 (fun o H4 => o = some (-1) ∧ H4 = H3) I3 ⟨1, rfl, -1, rfl, rfl, rfl⟩) fun vs s4 ⟨o, H4, I4, ps, eo, e4⟩ => ?_
  subst eo e4
  have I5 : Inv X pins σ H4 { s4 with heap := s4.heap.push { cls := .type "slice", data := .fields #[vl, vu, vs] } } := I4.kept (t' := s4.toks) fun b ob q => Heap.get?_push_of_some _ q
  show wpAny (model X.prog X.w) X.A (subscriptTail e (.Slice none none (some (.UnaryOp .USub (.Constant (.int 1) k p1) p2)) p3) (.ref a) (.ref s4.heap.objs.size)) (EP X pins σ Q) X.xe _
  rcases q with ⟨hx, q⟩ | ⟨hx, q⟩
  · obtain ⟨its, r, ht, hz⟩ := I5.list hx
    have hlen := r.length
    refine tail_any (ops := [.ref a, .ref s4.heap.objs.size]) ht.isList.typeIs (PySem.slot_list_getitem.lookup) ?_ (by with_unfolding_all rfl)
    refine wpAny_getItem_list_slice ht.isList (Heap.IsSliceOf.new _ vl vu vs) pl pu ps (by decide) ?_ (by rw [List.size_toArray]; omega)
    rw [PySem.W.krv_pick]
    refine ⟨.ref _, _, I5.laid (t' := s4.toks) (o := .lst xs.reverse) (fun b ob q => Heap.get?_push_of_some _ q) (Nat.le_refl _) ?_, rfl, q _ (I5.hok.fresh (Nat.le_refl _))⟩
    exact ⟨by rw [List.length_reverse]; exact hz, _, 0, r.reverse, Heap.get?_push_size _ rfl⟩
  · obtain ⟨its, r, ht, hz⟩ := I5.tuple hx
    have hlen := r.length
    cases pl
    cases pu
    refine tail_any (ops := [.ref a, .ref s4.heap.objs.size]) ht.typeIs (PyProof.Rows.slot_tuple_getitem.lookup) ?_ (by with_unfolding_all rfl)
    refine item_rev ht (Heap.IsSliceOf.new _ .none .none vs) ps ?_ (by rw [List.size_toArray]; omega)
    refine ⟨.ref _, _, I5.laid (t' := s4.toks) (o := .tup xs.reverse) (fun b ob q => Heap.get?_push_of_some _ q) (Nat.le_refl _) ?_, rfl, q _ (I5.hok.fresh (Nat.le_refl _))⟩
    exact ⟨by rw [List.length_reverse]; exact hz, _, r.reverse, _, Heap.get?_push_size _ rfl, rfl, 0, by simp⟩
end
section
variable {c : Ck} {X : Cx} {W : WX} {pos : Pos} {e : Expr} {es : List Expr} {m : EM} {ms : AM}
def revP (cell : Bool) (x : PV) (h : VH) : Res PV := match x with
  | .tup xs => .ok (.tup xs.reverse) h
  | x => match lstOf x h with
    | some xs => mkL cell xs.reverse h
    | none => .bad
@[simp] theorem revP_tup (cell : Bool) (xs : List PV) (h : VH) : revP cell (.tup xs) h = .ok (.tup xs.reverse) h := (rfl)
@[simp] theorem revP_lst (cell : Bool) (xs : List PV) (h : VH) : revP cell (.lst xs) h = mkL cell xs.reverse h := (rfl)
theorem SE.rev (cell : Bool) {k : Nat} {p1 p2 p3 : Pos} (he : SE c X W e m) : SE c X W (.Subscript e (.Slice none none (some (.UnaryOp .USub (.Constant (.int 1) k p1) p2)) p3) pos) (eUn (revP cell) m) := by
  obtain ⟨t, p, s⟩ := he
  refine ⟨_, pe_revA p, fun g σ h τ H Q rs rh q => ?_⟩
  refine s g σ h τ H _ rs rh ((Post.bind q).imp (fun u H1 ⟨g1, x, h1, m1, q1⟩ => ?_) fun _ _ _ z => z)
  unfold revP at q1
  split at q1
  · obtain ⟨a, us, rfl, hs, r⟩ := tup_run m1.rep m1.rel
    exact ⟨a, us, rfl, .inr ⟨.inl (.inl hs), tup_new m1.rel r.reverse q1⟩⟩
  · split at q1
    · obtain ⟨a, us, rfl, hs, r⟩ := lstOf_run m1.rep m1.rel ‹_›
      exact ⟨a, us, rfl, .inl ⟨hs, mkL_new m1.rel r.reverse q1⟩⟩
    · exact q1.elim

/-! ### a[i] -/
def ixP (x y : PV) (h : VH) : Res PV := match y with
  | .int i => match x with
    | .str z => match atI z.cps.toList i with
      | some k => if z.length ≤ 16777216 then .ok (.str ⟨#[k]⟩) h else .bad
      | none => .bad
    | x => match seqOf x h with
      | some xs => match atI xs i with
        | some v => .ok v h
        | none => .bad
      | none => .bad
  | _ => .bad
theorem ixP_seq {x : PV} {h : VH} {xs : List PV} {i : Int} {v : PV} (e : seqOf x h = some xs) (a : atI xs i = some v) : ixP x (.int i) h = .ok v h := by
  cases x with
  | str z => cases e
  | _ => simp only [ixP, e, a]
theorem ixP_str {z : Str} {i : Int} {k : Nat} {h : VH} (a : atI z.cps.toList i = some k) (b : z.length ≤ 16777216) : ixP (.str z) (.int i) h = .ok (.str ⟨#[k]⟩) h := by
  simp only [ixP, a, if_pos b]
theorem atI_nat {α : Type} {xs : List α} {n : Nat} : atI xs (n : Int) = xs[n]? := by
  unfold atI ixN
  rw [if_pos (by omega)]
  by_cases h : n < xs.length
  · rw [if_pos (by omega)]; simp
  · rw [if_neg (by omega), List.getElem?_eq_none (by omega)]; rfl
theorem atI_pos {α : Type} {xs : List α} {i : Int} (h : 0 ≤ i) : atI xs i = xs[i.toNat]? := by
  obtain ⟨n, rfl⟩ := Int.eq_ofNat_of_zero_le h
  exact atI_nat
theorem atI_last {α : Type} {xs : List α} {n : Nat} (h : xs.length = n + 1) : atI xs (-1) = xs[n]? := by
  unfold atI ixN
  rw [if_neg (by omega), if_pos (by omega)]
  have : ((-1 : Int) + (xs.length : Nat)).toNat = n := by omega
  simp [this]
theorem atI_some {α : Type} {xs : List α} {i : Int} {v : α} (h : atI xs i = some v) : ∃ j, ixN xs.length i = some j ∧ xs[j]? = some v := Option.bind_eq_some_iff.mp h
theorem atI_rep {K : Kc} {g : Gh} {n : Nat} {xs : List PV} {us : List V} {i : Int} {v : PV} (r : Reps K g n xs us) (h : atI xs i = some v) : ∃ u, atI us i = some u ∧ Rep K g n v u := by
  obtain ⟨j, e1, e2⟩ := atI_some h
  obtain ⟨u, e3, r3⟩ := r.get e2
  refine ⟨u, ?_, r3⟩
  unfold atI
  rw [r.length, e1]
  exact e3
theorem ixS : OpS c X (rIx X.K) ixP := fun g h H x y u v Q E rx ry rh p => by
  unfold ixP at p
  split at p
  · simp only [Rep] at ry
    split at p
    · split at p
      · split at p
        · simp only [Rep] at rx
          exact .inr (.inr ⟨_, _, _, rx, ry, by rw [sizeLine_eq]; assumption, ‹_›, p.go rh repS⟩)
        · exact p.elim
      · exact p.elim
    · split at p
      · rename_i xs e1
        split at p
        · rename_i v e2
          obtain ⟨a, us, rfl, s, r⟩ := seqOf_run rx rh e1
          obtain ⟨u', e3, r3⟩ := atI_rep r e2
          rcases s with s | s
          · exact .inl ⟨a, us, _, u', rfl, ry, s, e3, p.go rh r3⟩
          · exact .inr (.inl ⟨a, us, _, u', rfl, ry, s, e3, p.go rh r3⟩)
        · exact p.elim
      · exact p.elim
  · exact p.elim
variable {a b : Expr} {ma mb : EM}
theorem SE.ix (ha : SE c X W a ma) (hb : SE c X W b mb) (hs : PlainIx b := by intro _ _; rfl) : SE c X W (.Subscript a b pos) (eBin ixP ma mb) := by
  obtain ⟨ta, pa, sa⟩ := ha
  obtain ⟨tb, pb, sb⟩ := hb
  exact ⟨_, pe_ix ix_seq pa pb hs, fun g σ h τ H Q rs rh p => two_run sa sb rs rh p fun g h H x y u v rx ry rh p => ixS g h H x y u v Q _ rx ry rh p⟩

/-! ### a[lo:hi] -/
def cutP (xs : List PV) (lo hi : Option Int) : List PV := (xs.drop (HT.sIx xs.length 0 lo)).take (HT.sIx xs.length xs.length hi - HT.sIx xs.length 0 lo)
theorem cutP_rep {K : Kc} {g : Gh} {n : Nat} {xs : List PV} {us : List V} {lo hi : Option Int} (r : Reps K g n xs us) : Reps K g n (cutP xs lo hi) (cutV us lo hi) := by
  unfold cutP cutV
  rw [r.length]
  exact (r.drop _).take _
def slP (cell : Bool) (x : PV) (lo hi : Option Int) (h : VH) : Res PV := match x with
  | .str z => if z.length ≤ 16777216 then .ok (.str (cutS z lo hi)) h else .bad
  | .tup xs => .ok (.tup (cutP xs lo hi)) h
  | x => match lstOf x h with
    | some xs => mkL cell (cutP xs lo hi) h
    | none => .bad
@[simp] theorem slP_tup (cell : Bool) (xs : List PV) (lo hi : Option Int) (h : VH) : slP cell (.tup xs) lo hi h = .ok (.tup (cutP xs lo hi)) h := (rfl)
theorem slP_lst {cell : Bool} {x : PV} {xs : List PV} {lo hi : Option Int} {h : VH} (e : lstOf x h = some xs) : slP cell x lo hi h = mkL cell (cutP xs lo hi) h := by
  cases x with
  | str z => cases e
  | tup z => cases e
  | _ => simp only [slP, e]
theorem slP_str {cell : Bool} {z : Str} {lo hi : Option Int} {h : VH} (b : z.length ≤ 16777216) : slP cell (.str z) lo hi h = .ok (.str (cutS z lo hi)) h := if_pos b
def rSlAll (K : PySem.W.Frag) : V → Option Int → Option Int → Hp → VK → Prop := fun x lo hi H Q => rSlL K x lo hi H Q ∨ rSlA K x lo hi H Q ∨ rSlS x lo hi H Q
theorem sl_all : SlR X (rSlAll X.K) := sl_list.or (sl_tupA.or sl_str)
def oNone : LS → VH → Res (Option Int) := fun _ h => .ok none h
def asI : PV → VH → Res (Option Int)
  | .int i, h => .ok (some i) h
  | _, _ => .bad
@[simp] theorem asI_int (i : Int) (h : VH) : asI (.int i) h = .ok (some i) h := (rfl)
def oSome (m : EM) : LS → VH → Res (Option Int) := fun σ h => (m σ h).bind asI
abbrev RepI : Gh → Nat → Option Int → Option Int → Prop := fun _ _ a b => b = a
def SO (c : Ck) (X : Cx) (W : WX) (e : Option Expr) (m : LS → VH → Res (Option Int)) : Prop := ∃ t, L2.PO X e t ∧ ∀ g σ h τ H Q, RelS (kx c X) g h.length σ τ → RelH (kx c X) g h H → Post (kx c X) RepI g h.length Q (at_ W τ) (m σ h) → t τ H Q
theorem SO.none : SO c X W none oNone := ⟨_, po_none, fun g σ h τ H Q rs rh q => q g _ H (Gh.le.refl _ _) (Nat.le_refl _) rh rfl⟩
theorem SO.some (he : SE c X W e m) : SO c X W (some e) (oSome m) := by
  obtain ⟨t, p, s⟩ := he
  refine ⟨_, po_some p, fun g σ h τ H Q rs rh q => ?_⟩
  refine s g σ h τ H _ rs rh ((Post.bind q).imp (fun u H1 ⟨g1, x, h1, m1, q1⟩ => ?_) fun _ _ _ z => z)
  cases x with
  | int i =>
    have := m1.rep
    simp only [Rep] at this
    exact ⟨i, this, q1 g1 _ H1 (Gh.le.refl _ _) (Nat.le_refl _) m1.rel rfl⟩
  | _ => exact q1.elim
def eSl (cell : Bool) (m : EM) (lo hi : LS → VH → Res (Option Int)) : EM := fun σ h => (m σ h).bind fun x h1 => (lo σ h1).bind fun l h2 => (hi σ h2).bind fun u h3 => slP cell x l u h3
theorem SE.sl (cell : Bool) {lo hi : Option Expr} {ml mh : LS → VH → Res (Option Int)} {p2 : Pos} (he : SE c X W e m) (hl : SO c X W lo ml) (hh : SO c X W hi mh) : SE c X W (.Subscript e (.Slice lo hi none p2) pos) (eSl cell m ml mh) := by
  obtain ⟨t, p, s⟩ := he
  obtain ⟨tl, pl, sl⟩ := hl
  obtain ⟨th, ph, sh⟩ := hh
  refine ⟨_, pe_slice sl_all p pl ph, fun g σ h τ H Q rs rh q => ?_⟩
  refine s g σ h τ H _ rs rh ((Post.bind q).imp (fun u H1 ⟨g1, x, h1, m1, q1⟩ => ?_) fun _ _ _ z => z)
  refine sl g1 σ h1 τ H1 _ (rs.mono m1.le m1.len) m1.rel ((Post.bind q1).imp (fun l H2 ⟨g2, l', h2, m2, q2⟩ => ?_) fun _ _ _ z => z)
  obtain rfl : l = l' := m2.rep
  have le2 := m1.le.trans m2.le m1.len
  have ln2 := Nat.le_trans m1.len m2.len
  refine sh g2 σ h2 τ H2 _ (rs.mono le2 ln2) m2.rel ((Post.bind q2).imp (fun w H3 ⟨g3, w', h3, m3, q3⟩ => ?_) fun _ _ _ z => z)
  obtain rfl : w = w' := m3.rep
  have rx := (m1.rep.mono m2.le m2.len).mono m3.le m3.len
  have q3 : Post (kx c X) (Rep (kx c X)) g3 h3.length Q (at_ W τ) (slP cell x l w h3) := q3
  have viaL : ∀ {xs : List PV}, lstOf x h3 = some xs → Post (kx c X) (Rep (kx c X)) g3 h3.length Q (at_ W τ) (mkL cell (cutP xs l w) h3) → rSlAll X.K u l w H3 Q := fun {xs} e q => by
    obtain ⟨a, us, rfl, hs, r⟩ := lstOf_run rx m3.rel e
    exact .inl ⟨a, us, rfl, hs, mkL_new m3.rel (cutP_rep r) q⟩
  cases x with
  | str z =>
    by_cases hz : z.length ≤ 16777216
    · rw [slP_str hz] at q3
      simp only [Rep] at rx
      exact .inr (.inr ⟨_, rx, by rw [sizeLine_eq]; exact hz, q3.go m3.rel repS⟩)
    · have e : slP cell (.str z) l w h3 = .bad := if_neg hz
      rw [e] at q3
      exact q3.elim
  | tup xs =>
    obtain ⟨a, us, rfl, hs, r⟩ := tup_run rx m3.rel
    rw [slP_tup] at q3
    refine .inr (.inl ⟨a, us, rfl, .inl (.inl hs), fun z => ?_, fun _ => tup_new m3.rel (cutP_rep r) q3⟩)
    have e : cutP xs l w = xs := by
      rw [r.length] at z
      unfold cutP
      rw [z.1, z.2, List.drop_zero, Nat.sub_zero, List.take_length]
    rw [e] at q3
    exact q3.go m3.rel rx
  | lst xs => exact viaL rfl q3
  | scr xs => exact viaL rfl q3
  | ref i =>
    cases e : lstOf (.ref i) h3 with
    | some xs => rw [slP_lst e] at q3; exact viaL e q3
    | none => unfold slP at q3; simp only [e] at q3; exact q3.elim
  | _ => exact q3.elim
end
end Pm
namespace PySem
open Sem (wp)
open AutoSeq1 (wpAny_loadPart')
set_option maxHeartbeats 4000000 in
theorem pm_enumerate_newT (l : Addr) (items : Array Value) (n : Nat) (dct : Option Addr) (sl : Array (Option Value)) :
    Meets (Builtin.«enumerate.__new__» ⟨[.type "enumerate", .ref l], []⟩) (fun _ R s => s.heap.get? l = some { cls := .type "tuple", dict := dct, data := .seq items n, slots := sl } ∧
      R (.ok (.ret (.ref (s.heap.push { cls := .type "tuple_iterator", data := .fields #[.ref l, .int 0 0] }).objs.size)))
        { s with heap := (s.heap.push { cls := .type "tuple_iterator", data := .fields #[.ref l, .int 0 0] }).push { cls := .type "enumerate", data := .fields #[.none, .bool false, .ref s.heap.objs.size, rawInt 0, .none, .none] } }) :=
  .of_wp fun prog w A R s h => by
    obtain ⟨hp, g, d, tk, os⟩ := s; obtain ⟨hl, h⟩ := h
    have hsub := sub_enumerate
    have hL : Heap.IsTuple (Shared.heap ⟨hp, g, d, tk, os⟩) l items := ⟨_, hl, rfl, n, rfl⟩
    wp_walk using wpAny_loadPart' hl
    refine wpAny_stack_any fun st => wpAny_pure ?_
    split
    · rename_i c _ _ _ _ _
      cases (c == Value.type "enumerate")
      · wp_walk using wpAny_loadPart' hl, wpAny_pyIter_tuple hL
        exact ⟨_, rfl, h⟩
      · wp_walk using wpAny_loadPart' hl, wpAny_pyIter_tuple hL
        exact ⟨_, rfl, h⟩
    · wp_walk using wpAny_loadPart' hl, wpAny_pyIter_tuple hL
      exact ⟨_, rfl, h⟩
section
variable {prog : Program} {w : World} {A : Around} {E : Value → Shared → Prop} {s : Shared}
theorem pm_call_enumerate_tuple {l : Addr} {items : Array Value} {Q : Value → Shared → Prop} (hL : s.heap.IsTuple l items)
    (h : ∀ h', IsEnum h' (s.heap.objs.size + 1) s.heap.objs.size 0 .none → h'.IsTupleIter s.heap.objs.size l 0 → h'.objs.size = s.heap.objs.size + 2 →
      (∀ b o, s.heap.get? b = some o → h'.get? b = some o) → Q (.ref (s.heap.objs.size + 1)) { s with heap := h' }) :
    wpAny (model prog w) A (call (.type "enumerate") [.ref l]) Q E s := by
  obtain ⟨⟨c, dct, dt, sl⟩, hl, hc, n, hd⟩ := hL
  replace hc : c = .type "tuple" := hc
  replace hd : dt = .seq items n := hd
  subst hc hd
  refine callType_new F.called_enumerate (by decide) (F.typeCall_enumerate_1 _) (F.newCall_enumerate_1 _) (fun obj => F.args_object_init_2 obj _) F.entry_enumerate_new
    (pm_enumerate_newT l items n dct sl) ⟨hl, ?_⟩
  have hz : (s.heap.push { cls := .type "tuple_iterator", data := .fields #[.ref l, .int 0 0] }).objs.size = s.heap.objs.size + 1 := Heap.size_push ..
  show _ ∧ _
  rw [hz]
  have he : IsEnum ((s.heap.push { cls := .type "tuple_iterator", data := .fields #[.ref l, .int 0 0] }).push
      { cls := .type "enumerate", data := .fields #[.none, .bool false, .ref s.heap.objs.size, rawInt 0, .none, .none] }) (s.heap.objs.size + 1) s.heap.objs.size 0 .none := by
    have := Heap.get?_push_size (s.heap.push { cls := .type "tuple_iterator", data := .fields #[.ref l, .int 0 0] })
      (o := { cls := .type "enumerate", data := .fields #[.none, .bool false, .ref s.heap.objs.size, rawInt 0, .none, .none] }) rfl
    rw [hz] at this; exact this
  refine ⟨⟨_, he, rfl⟩, h _ he ⟨_, Heap.get?_push_of_some _ (Heap.get?_push_size _ rfl), rfl, rfl⟩ (by rw [Heap.size_push, hz]) fun b o x => Heap.get?_push_of_some _ (Heap.get?_push_of_some _ x)⟩
theorem pm_pyNext_enum_endT {e it l : Addr} {i : Nat} {k : Int} {items : Array Value} {old : Value} {Q : Option Value → Shared → Prop} (hh : A.in1.handled = none)
    (he : IsEnum s.heap e it k old) (hit : s.heap.IsTupleIter it l i) (hl : s.heap.IsTuple l items) (hx : items[i]? = none)
    (hQ : ∀ h', Heap.ExtBut it s.heap h' → Q none { s with heap := h' }) : wpAny (model prog w) A (pyNext (.ref e)) Q E s := by
  have hT : s.TypeIs (.ref e) "enumerate" := ⟨_, he, rfl⟩
  unfold pyNext
  refine wpAny_bind (wpAny_attempt (wpAny_callSpecial?_slot (name := Str.ofString "__next__") hT F.slot_enumerate_next
    (wpAny_call_entry F.slot_enumerate_next hT F.entry_enumerate_next ?_ (F.args_enumerate_next_1 _))))
  show wpAny _ _ (field (.ref e) 2 >>= _) _ _ _
  refine wpAny_bind (wpAny_field he rfl (x := .ref it) rfl ?_)
  refine wpAny_bind (wpAny_nextOf_tuple_end hh hit hl hx fun h' x he' hx' => ?_)
  obtain ⟨o, ho, hc⟩ := hx'
  refine wpAny_bind (wpAny_isInstance (T := "StopIteration") (b := true) ⟨o, ho, hc⟩ isSubtype_stop ?_)
  exact wpAny_pure (hQ _ he')
end
end PySem
namespace Pm
open PySem PySem.Spec L2 PyProof.Rows
/-- a tuple as it stands at each turn, each item in a new pair behind its place -/
def IteT (K : PySem.W.Frag) (a : Addr) : It :=
  ⟨fun i H => ∃ (xs : List V) (x : V), SqT K H a xs ∧ xs[i]? = some x, fun i H v H' => ∃ T x, v = .ref T ∧ H T = none ∧ H' = upd H T (.tup [.int (i : Nat), x]) ∧ ∀ xs, SqT K H a xs → xs[i]? = some x, fun i H => ∃ xs : List V, SqT K H a xs ∧ xs.length ≤ i⟩
theorem turn_enumT {P : Program} {w : World} {K : PySem.W.Frag} {elts : List Expr} {kk : Nat} {tpos : Pos} (a e it : Addr) :
    Turn P w K (.Tuple elts kk tpos) (IteT K a) [e, it] e (fun i h => (∃ old, IsEnum h e it ((i : Nat) : Int) old) ∧ h.IsTupleIter it a i ∧ e ≠ it ∧ a ≠ it ∧ a ≠ e) where
  mem := by simp
  obj := fun i h st b hb => by
    obtain ⟨⟨old, he⟩, ⟨o, ho, hc, hd⟩, _⟩ := st
    have e' : b = e ∨ b = it := by simpa using hb
    rcases e' with z | z
    · rw [z]; exact ⟨_, he, fun v q => nomatch q⟩
    · rw [z]; exact ⟨o, ho, fun v q => by rw [hd] at q; cases q⟩
  keep := fun i h h' st k => let ⟨⟨old, he⟩, hi, hne⟩ := st; ⟨⟨old, k e (by simp) _ he⟩, hi.at fun o q => k it (by simp) o q, hne⟩
  item := by
    intro X hP hw hK hc i pins s σ H E I hf st hg
    subst hP hw hK
    obtain ⟨⟨old, he⟩, hit, hne, ha1, ha2⟩ := st
    obtain ⟨xs, x, hq, hx⟩ := hg
    obtain ⟨its, rv, p, hz⟩ := I.tuple hq
    obtain ⟨u, hu, ru⟩ := rv.get hx
    have hel : e < s.heap.objs.size := Heap.lt_size he
    have hil : it < s.heap.objs.size := by obtain ⟨_, q, _⟩ := hit; exact Heap.lt_size q
    have D := Draws.tuple (prog := X.prog) (w := X.w) (A := X.A.in1) (I.ok.hd hc) it a ha1 its.toArray
    have hi : i < its.toArray.size := by
      have := (List.getElem?_eq_some_iff.mp hu).1
      simpa using this
    refine wpAny_pyNext_enum_itemD D he ⟨hit, p⟩ hi hne (by simp; exact ⟨hne, fun z => ha2 z.symm⟩) fun x' h' tk hx' ho hst' hT hsz hk => ?_
    have ex : x' = u := by
      have h1 : its.toArray[i]? = some x' := hx'
      have h2 : its.toArray[i]? = some u := by simpa using hu
      rw [h1] at h2; cases h2; rfl
    subst ex
    refine ⟨_, rfl, wpAny_letOwnedTupleGo_enum (s := { s with heap := h', toks := tk + 1 }) ho fun h'' he' sb => ?_⟩
    have hT2 : h''.get? s.heap.objs.size = some { cls := .type "tuple", data := .seq #[.int i tk, x'] } := (sb.2 _ (Nat.ne_of_gt hel)).trans hT
    have new : ObjOk X.prog X.w (upd H s.heap.objs.size (.tup [.int (i : Nat), x])) h'' s.heap.objs.size (.tup [.int (i : Nat), x]) :=
      ⟨by show 2 ≤ sizeLine; decide, [.int i tk, x'], .cons ⟨_, rfl⟩ (.cons ru .nil), ⟨_, hT2, rfl, _, rfl⟩⟩
    have I1 : Inv X pins σ (upd H s.heap.objs.size (.tup [.int (i : Nat), x])) { s with heap := h'', toks := tk + 1 } :=
      I.turnedNew (ch := [e, it]) (fun b ob hb q => (sb.2 b (fun z => hb (by simp [z]))).trans (hk b ob (fun z => hb (by simp [z])) (fun z => hb (by simp [z])) q)) hf (Nat.le_refl _) new
    refine ⟨.ref s.heap.objs.size, _, I1, rfl, ⟨_, x, rfl, I.hok.fresh (Nat.le_refl _), rfl, fun ys hy => by rw [I.tuple_inj hy hq]; exact hx⟩, ⟨⟨x', ?_⟩, hst'.1.at fun o q => (sb.2 it (Ne.symm hne)).trans q, hne, ha1, ha2⟩, fun b hb => ?_⟩
    · have e1 : ((i + 1 : Nat) : Int) = (i : Int) + 1 := by omega
      rw [e1]; exact he'
    · have hb' : b < s.heap.objs.size := by
        have e' : b = e ∨ b = it := by simpa using hb
        rcases e' with z | z
        · rw [z]; exact hel
        · rw [z]; exact hil
      rw [upd_ne (Nat.ne_of_lt hb')]
      exact (hf b hb).1
  done := by
    intro X hP hw hK hc i pins s σ H E I hf st hg
    subst hP hw hK
    obtain ⟨⟨old, he⟩, hit, hne, ha1, ha2⟩ := st
    obtain ⟨xs, hq, hx⟩ := hg
    obtain ⟨its, rv, p, hz⟩ := I.tuple hq
    obtain ⟨f0, f1, f2, f3, f4, f5⟩ := hf it (by simp)
    have hl := rv.length
    exact pm_pyNext_enum_endT (I.ok.hd hc) he hit p (by simp; omega) fun h' eb => ⟨rfl, I.turned (t' := s.toks) (fun b o hb q => eb b o hb q) f0 f1 f3 f4 f5⟩
  self := fun A i s Q E st h => let ⟨⟨_, he⟩, _⟩ := st; wpAny_pyIter_enum he h
def iEnumA (K : PySem.W.Frag) (ta : TA) : TI := fun σ H R => ta σ H fun vs H1 => ∃ a xs, vs = [.ref a] ∧ ((SqL K H1 a xs ∧ R (Ite K a) H1) ∨ (SqT K H1 a xs ∧ R (IteT K a) H1))
theorem pi_enumA {X : Cx} {e : Expr} {ta : TA} {p pos tpos : Pos} {elts : List Expr} {kk : Nat} (hg : Gl X "enumerate") (hm : X.mg "enumerate" = none) (ha : PA X [e] ta) (hs : starEach [e] X.env = [(false, eval e X.env)] := by rfl) :
    PI X (.Tuple elts kk tpos) (.Call (.Name "enumerate" p) [e] [] pos) (iEnumA X.K ta) := by
  refine ⟨fun pins s σ H R I h => ?_⟩
  refine Call_ (ld_blt I hg hm boot_enumerate (PyProof.Rows.callWith_type1 (thn (ha.run pos pins s σ H _ I h) fun us s1 ⟨vs, H1, I1, r1, q1⟩ => ?_) hs rfl))
  obtain ⟨a, xs, ex, q⟩ := q1
  subst ex
  cases r1 with
  | cons r rr =>
    cases rr
    cases r
    have fr : ∀ b, b ∈ [s1.heap.objs.size + 1, s1.heap.objs.size] → FpOk X pins H1 b := fun b hb => by
      have e' : b = s1.heap.objs.size + 1 ∨ b = s1.heap.objs.size := by simpa using hb
      have hle : s1.heap.objs.size ≤ b := by
        rcases e' with z | z
        · rw [z]; exact Nat.le_add_right _ _
        · rw [z]; exact Nat.le_refl _
      exact I1.fpOk hle (I1.hok.fresh hle)
    rcases q with ⟨hq, q⟩ | ⟨hq, q⟩
    · obtain ⟨its, rv, p', hz⟩ := I1.list hq
      refine call_enumerate_list p'.isList fun h' he hit hsz hk => wpAny_pyIter_enum he ?_
      have I2 : Inv X pins σ H1 { s1 with heap := h' } := I1.kept (t' := s1.toks) hk
      exact ⟨s1.heap.objs.size + 1, [s1.heap.objs.size + 1, s1.heap.objs.size], _, _, H1, rfl, I2, turn_enum a (s1.heap.objs.size + 1) s1.heap.objs.size, ⟨⟨.none, he⟩, hit, Nat.succ_ne_self _⟩, fr, q⟩
    · obtain ⟨its, rv, p', hz⟩ := I1.tuple hq
      obtain ⟨o1, ho1, _⟩ := id p'
      have lt := Heap.lt_size ho1
      refine pm_call_enumerate_tuple (show s1.heap.IsTuple a its.toArray from p') fun h' he hit hsz hk => wpAny_pyIter_enum he ?_
      have I2 : Inv X pins σ H1 { s1 with heap := h' } := I1.kept (t' := s1.toks) hk
      exact ⟨s1.heap.objs.size + 1, [s1.heap.objs.size + 1, s1.heap.objs.size], _, _, H1, rfl, I2, turn_enumT a (s1.heap.objs.size + 1) s1.heap.objs.size, ⟨⟨.none, he⟩, hit, Nat.succ_ne_self _, Nat.ne_of_lt lt, Nat.ne_of_lt (Nat.lt_succ_of_lt lt)⟩, fr, q⟩
end Pm
namespace Pm
open PySem PySem.Spec L2 PyProof.Rows

/-! ### walks over what lies in a cell -/
section
variable {K : PySem.W.Frag} {a b : Addr} {n : Nat}
theorem walkL : Walk (Itl K a) n (fun H => ∃ us, SqL K H a us ∧ us.length = n) (fun i H x H' => H' = H ∧ ∀ us, SqL K H a us → us[i]? = some x) :=
  ⟨fun i H hi ⟨us, q, e⟩ => ⟨us, us[i], q, by simp [e, hi]⟩, fun H ⟨us, q, e⟩ => ⟨us, q, by omega⟩, fun _ _ _ _ _ _ y => y⟩
theorem walkT : Walk (Itt K a) n (fun H => ∃ us, SqT K H a us ∧ us.length = n) (fun i H x H' => H' = H ∧ ∀ us, SqT K H a us → us[i]? = some x) :=
  ⟨fun i H hi ⟨us, q, e⟩ => ⟨us, us[i], q, by simp [e, hi]⟩, fun H ⟨us, q, e⟩ => ⟨us, q, by omega⟩, fun _ _ _ _ _ _ y => y⟩
theorem walkET : Walk (IteT K a) n (fun H => ∃ us, SqT K H a us ∧ us.length = n) (fun i H v H' => ∃ T x, v = .ref T ∧ H T = none ∧ H' = upd H T (.tup [.int (i : Nat), x]) ∧ ∀ us, SqT K H a us → us[i]? = some x) :=
  ⟨fun i H hi ⟨us, q, e⟩ => ⟨us, us[i], q, by simp [e, hi]⟩, fun H ⟨us, q, e⟩ => ⟨us, q, by omega⟩, fun _ _ _ _ _ _ y => y⟩
theorem walkV : Walk (Itv K a n) n (fun H => ∃ us, SqL K H a us ∧ us.length = n) (fun i H x H' => H' = H ∧ ∀ us, SqL K H a us → us[n - 1 - i]? = some x) :=
  ⟨fun i H hi ⟨us, q, e⟩ => ⟨hi, us, us[n - 1 - i]'(by omega), q, by simp [show n - 1 - i < us.length by omega]⟩, fun _ _ => Nat.le_refl _, fun _ _ _ _ _ _ y => y⟩
theorem walkVT : Walk (RT.ItvT K a n) n (fun H => ∃ us, SqT K H a us ∧ us.length = n) (fun i H x H' => H' = H ∧ ∀ us, SqT K H a us → us[n - 1 - i]? = some x) :=
  ⟨fun i H hi ⟨us, q, e⟩ => ⟨hi, us, us[n - 1 - i]'(by omega), q, by simp [show n - 1 - i < us.length by omega]⟩, fun _ _ => Nat.le_refl _, fun _ _ _ _ _ _ y => y⟩
theorem walkE : Walk (Ite K a) n (fun H => ∃ us, SqL K H a us ∧ us.length = n) (fun i H v H' => ∃ T x, v = .ref T ∧ H T = none ∧ H' = upd H T (.tup [.int (i : Nat), x]) ∧ ∀ us, SqL K H a us → us[i]? = some x) :=
  ⟨fun i H hi ⟨us, q, e⟩ => ⟨us, us[i], q, by simp [e, hi]⟩, fun H ⟨us, q, e⟩ => ⟨us, q, by omega⟩, fun _ _ _ _ _ _ y => y⟩
end
section
variable {c : Ck} {X : Cx} {W : WX} {pos p : Pos} {e e2 tg : Expr} {es : List Expr} {m : EM} {ms : AM}
/-- any list, tuple or text -/
def iAny (K : PySem.W.Frag) (te : TE) : TI := fun σ H R => te σ H fun x H1 => ∃ a, x = .ref a ∧ (((∃ xs, SqL K H1 a xs) ∧ R (Itl K a) H1) ∨ ((∃ xs, SqT K H1 a xs) ∧ R (Itt K a) H1))
theorem pi_any {te : TE} (he : PE X e te) : PI X tg e (iAny X.K te) := by
  refine ⟨fun pins s σ H R I h => thn (he.run pins s σ H _ I h) fun v s1 ⟨x, H1, I1, r1, a, ex, q⟩ => ?_⟩
  subst ex
  cases r1
  have fr : ∀ b ∈ [s1.heap.objs.size], FpOk X pins H1 b := fun b hb => by
    have eb : b = s1.heap.objs.size := by simpa using hb
    rw [eb]; exact I1.fpOk (Nat.le_refl _) (I1.hok.fresh (Nat.le_refl _))
  rcases q with ⟨⟨xs, hq⟩, q⟩ | ⟨⟨xs, hq⟩, q⟩
  · obtain ⟨its, rv, pl, hz⟩ := I1.list hq
    exact wpAny_pyIter_list pl.isList ⟨s1.heap.objs.size, [s1.heap.objs.size], _, _, H1, rfl, I1.kept (t' := s1.toks) fun b o z => Heap.get?_push_of_some _ z, turn_list a _, ⟨_, Heap.get?_push_size _ rfl, rfl, rfl⟩, fr, q⟩
  · obtain ⟨its, rv, pl, hz⟩ := I1.tuple hq
    exact wpAny_pyIter_tuple (show s1.heap.IsTuple a its.toArray from pl) ⟨s1.heap.objs.size, [s1.heap.objs.size], _, _, H1, rfl, I1.kept (t' := s1.toks) fun b o z => Heap.get?_push_of_some _ z, turn_tuple a _, ⟨_, Heap.get?_push_size _ rfl, rfl, rfl⟩, fr, q⟩

/-! ### loop sources -/
def ckOf (x : PV) (h : VH) : List (Nat × List PV) := match x with
  | .ref i => match h[i]? with
    | some (.lst xs) => [(i, xs)]
    | _ => []
  | _ => []
@[simp] theorem ckOf_tup (xs : List PV) (h : VH) : ckOf (.tup xs) h = [] := (rfl)
@[simp] theorem ckOf_lst (xs : List PV) (h : VH) : ckOf (.lst xs) h = [] := (rfl)
@[simp] theorem ckOf_scr (xs : List PV) (h : VH) : ckOf (.scr xs) h = [] := (rfl)
theorem ckOf_ref {i : Nat} {xs : List PV} {h : VH} (e : h[i]? = some (.lst xs)) : ckOf (.ref i) h = [(i, xs)] := by simp [ckOf, e]
@[simp] theorem ckOk_one (i : Nat) (xs : List PV) (h : VH) : ckOk [(i, xs)] h ↔ h[i]? = some (.lst xs) := by simp [ckOk]
/-- where a list was, it is still, with the same items -/
theorem keptL {K : Kc} {g0 g1 : Gh} {h0 h1 : VH} {H0 H1 : Hp} {x : PV} {u : V} {xs : List PV} (rx : Rep K g0 h0.length x u) (rh0 : RelH K g0 h0 H0) (e : lstOf x h0 = some xs) (l : g0.le0 h0.length g1) (hn : h0.length ≤ h1.length) (rh : RelH K g1 h1 H1) (ck : ckOk (ckOf x h0) h1) :
    lstOf x h1 = some xs ∧ Rep K g1 h1.length x u := by
  refine ⟨?_, rx.mono0 l hn⟩
  cases x with
  | lst ys => exact e
  | scr ys => exact e
  | ref i =>
    have e : (match h0[i]? with
      | some (PO.lst xs) => some xs
      | _ => none) = some xs := e
    split at e
    · rename_i ys e1
      cases e
      rw [ckOf_ref e1] at ck
      exact lstOf_ref (ck (i, _) (by simp))
    · cases e
  | _ => cases e
def srcSeq (x : PV) (h : VH) : Res Src := match x with
  | .tup xs => .ok ⟨xs, []⟩ h
  | x => match lstOf x h with
    | some xs => .ok ⟨xs, ckOf x h⟩ h
    | none => .bad
@[simp] theorem srcSeq_tup (xs : List PV) (h : VH) : srcSeq (.tup xs) h = .ok ⟨xs, []⟩ h := (rfl)
@[simp] theorem srcSeq_lst (xs : List PV) (h : VH) : srcSeq (.lst xs) h = .ok ⟨xs, []⟩ h := (rfl)
@[simp] theorem srcSeq_scr (xs : List PV) (h : VH) : srcSeq (.scr xs) h = .ok ⟨xs, []⟩ h := (rfl)
theorem srcSeq_ref {i : Nat} {xs : List PV} {h : VH} (e : h[i]? = some (.lst xs)) : srcSeq (.ref i) h = .ok ⟨xs, [(i, xs)]⟩ h := by simp [srcSeq, lstOf_ref e, ckOf_ref e]
theorem seq_src {K : Kc} {g : Gh} {h : VH} {H : Hp} {x : PV} {u : V} {R : It → Hp → Prop} {E : XK} (rx : Rep K g h.length x u) (rh : RelH K g h H) (q : Post K (SrcOk K) g h.length R E (srcSeq x h)) :
    ∃ a, u = .ref a ∧ (((∃ xs, SqL K.K H a xs) ∧ R (Itl K.K a) H) ∨ ((∃ xs, SqT K.K H a xs) ∧ R (Itt K.K a) H)) := by
  unfold srcSeq at q
  split at q
  · rename_i xs
    obtain ⟨a, us, rfl, s, r⟩ := tup_run rx rh
    refine ⟨a, rfl, .inr ⟨⟨us, .inl (.inl s)⟩, q.go rh ⟨_, _, walkT, fun g' h' H' l hn rh' _ => ?_, fun i y g' h' H' H2 l hn rh' _ hy u' hu => ?_⟩⟩⟩
    · obtain ⟨a', us', e, s', r'⟩ := tup_run (rx.mono0 l hn) rh'
      cases e
      exact ⟨us', .inl (.inl s'), r'.length⟩
    · obtain ⟨rfl, hu⟩ := hu
      obtain ⟨a', us', e, s', r'⟩ := tup_run (rx.mono0 l hn) rh'
      cases e
      obtain ⟨w, e1, r1⟩ := r'.get hy
      have := hu us' (.inl (.inl s'))
      rw [e1] at this
      cases this
      exact ⟨g', Gh.le.refl _ _, rh', r1⟩
  · split at q
    · rename_i xs e0
      obtain ⟨a, us, rfl, s, r⟩ := lstOf_run rx rh e0
      refine ⟨a, rfl, .inl ⟨⟨us, s⟩, q.go rh ⟨_, _, walkL, fun g' h' H' l hn rh' ck => ?_, fun i y g' h' H' H2 l hn rh' ck hy u' hu => ?_⟩⟩⟩
      · obtain ⟨e1, rx'⟩ := keptL rx rh e0 l hn rh' ck
        obtain ⟨a', us', e, s', r'⟩ := lstOf_run rx' rh' e1
        cases e
        exact ⟨us', s', r'.length⟩
      · obtain ⟨rfl, hu⟩ := hu
        obtain ⟨e1, rx'⟩ := keptL rx rh e0 l hn rh' ck
        obtain ⟨a', us', e, s', r'⟩ := lstOf_run rx' rh' e1
        cases e
        obtain ⟨w, e2, r1⟩ := r'.get hy
        have := hu us' s'
        rw [e2] at this
        cases this
        exact ⟨g', Gh.le.refl _ _, rh', r1⟩
    · exact q.elim
def iSeq (m : EM) : LS → VH → Res Src := fun σ h => (m σ h).bind srcSeq
theorem SI.seq (he : SE c X W e m) : SI c X W tg e (iSeq m) := by
  obtain ⟨t, pe, s⟩ := he
  refine ⟨_, pi_any pe, fun g σ h τ H R rs rh q => ?_⟩
  exact s g σ h τ H _ rs rh ((Post.bind q).imp (fun u H1 ⟨g1, x, h1, m1, q1⟩ => seq_src m1.rep m1.rel q1) fun _ _ _ z => z)
/-- numbers from lo on -/
def rngL (lo : Int) (n : Nat) : List PV := (List.range n).map fun i => PV.int (lo + (i : Nat))
@[simp] theorem rngL_length (lo : Int) (n : Nat) : (rngL lo n).length = n := by simp [rngL]
def srcRng : List PV → VH → Res Src
  | [.int j], h => if -(2 ^ 62) ≤ j ∧ j < 2 ^ 62 then .ok ⟨rngL 0 j.toNat, []⟩ h else .bad
  | [.int i, .int j], h => if -(2 ^ 62) ≤ i ∧ i < 2 ^ 62 ∧ -(2 ^ 62) ≤ j ∧ j < 2 ^ 62 then .ok ⟨rngL i (j - i).toNat, []⟩ h else .bad
  | _, _ => .bad
theorem srcRng1 {j : Int} {h : VH} (z : -(2 ^ 62) ≤ j ∧ j < 2 ^ 62) : srcRng [.int j] h = .ok ⟨rngL 0 j.toNat, []⟩ h := if_pos z
theorem srcRng2 {i j : Int} {h : VH} (z : -(2 ^ 62) ≤ i ∧ i < 2 ^ 62 ∧ -(2 ^ 62) ≤ j ∧ j < 2 ^ 62) : srcRng [.int i, .int j] h = .ok ⟨rngL i (j - i).toNat, []⟩ h := if_pos z
theorem rng_ok {K : Kc} {g : Gh} {h : VH} {lo : Int} {n : Nat} : SrcOk K g h.length ⟨rngL lo n, []⟩ (Itr lo n) := by
  refine ⟨_, _, by rw [rngL_length]; exact walk_range, fun _ _ _ _ _ _ _ => trivial, fun i x g' h' H' H2 l hn rh' _ hx u hu => ?_⟩
  obtain ⟨rfl, rfl⟩ := hu
  refine ⟨g', Gh.le.refl _ _, rh', ?_⟩
  have hx : (rngL lo n)[i]? = some x := hx
  simp only [rngL, List.getElem?_map] at hx
  by_cases hi : i < n
  · rw [List.getElem?_range hi] at hx
    cases hx
    exact repI
  · rw [List.getElem?_eq_none (by simpa using hi)] at hx
    cases hx
def iRng (ms : AM) : LS → VH → Res Src := fun σ h => (ms σ h).bind srcRng
theorem SI.range1 (hg : Gl X "range") (hm : X.mg "range" = none) (ha : SA c X W [e] ms) (hs : starEach [e] X.env = [(false, eval e X.env)] := by rfl) : SI c X W tg (.Call (.Name "range" p) [e] [] pos) (iRng ms) := by
  obtain ⟨la, t, pa, s⟩ := ha
  refine ⟨_, pi_range1 hg hm pa hs, fun g σ h τ H R rs rh q => s g σ h τ H _ rs rh ?_⟩
  have ln := fun xs h' => la σ h xs h'
  dsimp only [iRng] at q
  generalize ms σ h = res at q ln
  cases res with
  | ok xs h' =>
    intro g1 us H1 l hn rh1 ru
    have q1 := Post.up q l hn
    have l1 := ln xs h' rfl
    rw [Res.bind_ok] at q1
    unfold srcRng at q1
    split at q1
    · split at q1
      · rename_i hz
        obtain ⟨u, rfl, r1⟩ := ru.one
        simp only [Rep] at r1
        exact ⟨_, by rw [r1], hz.1, hz.2, Post.go (E := at_ W τ) q1 rh1 rng_ok⟩
      · exact q1.elim
    · simp at l1
    · exact q1.elim
  | exc e' h' => exact q
  | bad => exact q
theorem SI.range2 (hg : Gl X "range") (hm : X.mg "range" = none) (ha : SA c X W [e, e2] ms) (hs : starEach [e, e2] X.env = [(false, eval e X.env), (false, eval e2 X.env)] := by rfl) (hs2 : starEach [e2] X.env = [(false, eval e2 X.env)] := by rfl) : SI c X W tg (.Call (.Name "range" p) [e, e2] [] pos) (iRng ms) := by
  obtain ⟨la, t, pa, s⟩ := ha
  refine ⟨_, pi_range2 hg hm pa hs hs2, fun g σ h τ H R rs rh q => s g σ h τ H _ rs rh ?_⟩
  have ln := fun xs h' => la σ h xs h'
  dsimp only [iRng] at q
  generalize ms σ h = res at q ln
  cases res with
  | ok xs h' =>
    intro g1 us H1 l hn rh1 ru
    have q1 := Post.up q l hn
    have l1 := ln xs h' rfl
    rw [Res.bind_ok] at q1
    unfold srcRng at q1
    split at q1
    · simp at l1
    · split at q1
      · rename_i hz
        obtain ⟨u, v, rfl, r1, r2⟩ := ru.two
        simp only [Rep] at r1 r2
        exact ⟨_, _, by rw [r1, r2], hz, Post.go (E := at_ W τ) q1 rh1 rng_ok⟩
      · exact q1.elim
    · exact q1.elim
  | exc e' h' => exact q
  | bad => exact q
/-- numbers with a step -/
def stepI (lo k : Int) (n : Nat) : List PV := (List.range n).map fun i => PV.int (lo + (i : Nat) * k)
@[simp] theorem stepI_length (lo k : Int) (n : Nat) : (stepI lo k n).length = n := by simp [stepI]
/-- enumerate -/
def enumL (xs : List PV) : List PV := xs.mapIdx fun i x => PV.tup [.int (i : Nat), x]
@[simp] theorem enumL_length (xs : List PV) : (enumL xs).length = xs.length := by simp [enumL]
def srcEnum : List PV → VH → Res Src
  | [.tup xs], h => .ok ⟨enumL xs, []⟩ h
  | [x], h => match lstOf x h with
    | some xs => .ok ⟨enumL xs, ckOf x h⟩ h
    | none => .bad
  | _, _ => .bad
@[simp] theorem srcEnum_lst (xs : List PV) (h : VH) : srcEnum [.lst xs] h = .ok ⟨enumL xs, []⟩ h := (rfl)
theorem srcEnum_ref {i : Nat} {xs : List PV} {h : VH} (e : h[i]? = some (.lst xs)) : srcEnum [.ref i] h = .ok ⟨enumL xs, [(i, xs)]⟩ h := by simp [srcEnum, lstOf_ref e, ckOf_ref e]
def iEnm (ms : AM) : LS → VH → Res Src := fun σ h => (ms σ h).bind srcEnum
theorem SI.enum {elts : List Expr} {kk : Nat} {tpos : Pos} (hg : Gl X "enumerate") (hm : X.mg "enumerate" = none) (ha : SA c X W [e] ms) (hs : starEach [e] X.env = [(false, eval e X.env)] := by rfl) : SI c X W (.Tuple elts kk tpos) (.Call (.Name "enumerate" p) [e] [] pos) (iEnm ms) := by
  obtain ⟨la, t, pa, s⟩ := ha
  refine ⟨_, pi_enumA hg hm pa hs, fun g σ h τ H R rs rh q => s g σ h τ H _ rs rh ((Post.bind q).imp (fun us H1 ⟨g1, xs, h1, m1, q1⟩ => ?_) fun _ _ _ z => z)⟩
  unfold srcEnum at q1
  split at q1
  · rename_i ys
    obtain ⟨u, rfl, rx⟩ := m1.rep.one
    obtain ⟨a, us, rfl, s, r⟩ := tup_run rx m1.rel
    refine ⟨a, us, rfl, .inr ⟨.inl (.inl s), q1.go m1.rel ⟨_, _, by rw [enumL_length]; exact walkET, fun g' h' H' l hn rh' ck => ?_, fun i y g' h' H' H2 l hn rh' ck hy u' hu => ?_⟩⟩⟩
    · obtain ⟨a', us', e, s', r'⟩ := tup_run (rx.mono0 l hn) rh'
      cases e
      exact ⟨us', .inl (.inl s'), r'.length⟩
    · obtain ⟨T, x, rfl, nT, rfl, hu⟩ := hu
      obtain ⟨a', us', e, s', r'⟩ := tup_run (rx.mono0 l hn) rh'
      cases e
      have hy : (enumL ys)[i]? = some y := hy
      unfold enumL at hy
      rw [List.getElem?_mapIdx] at hy
      obtain ⟨z, hz, rfl⟩ := Option.map_eq_some_iff.mp hy
      obtain ⟨w, e2, r1⟩ := r'.get hz
      have := hu us' (.inl (.inl s'))
      rw [e2] at this
      cases this
      obtain ⟨le, rh2⟩ := RelH.frz (o := .tup [.int (i : Nat), x]) rh' nT
      refine ⟨_, le, rh2, ?_⟩
      simp only [Rep]
      exact ⟨T, _, rfl, upd_same, Reps.cons repI (Reps.cons (r1.mono le (Nat.le_refl _)) Reps.nil)⟩
  · obtain ⟨u, rfl, rx⟩ := m1.rep.one
    split at q1
    · rename_i ys e0
      obtain ⟨a, us, rfl, s, r⟩ := lstOf_run rx m1.rel e0
      refine ⟨a, us, rfl, .inl ⟨s, q1.go m1.rel ⟨_, _, by rw [enumL_length]; exact walkE, fun g' h' H' l hn rh' ck => ?_, fun i y g' h' H' H2 l hn rh' ck hy u' hu => ?_⟩⟩⟩
      · obtain ⟨e1, rx'⟩ := keptL rx m1.rel e0 l hn rh' ck
        obtain ⟨a', us', e, s', r'⟩ := lstOf_run rx' rh' e1
        cases e
        exact ⟨us', s', r'.length⟩
      · obtain ⟨T, x, rfl, nT, rfl, hu⟩ := hu
        obtain ⟨e1, rx'⟩ := keptL rx m1.rel e0 l hn rh' ck
        obtain ⟨a', us', e, s', r'⟩ := lstOf_run rx' rh' e1
        cases e
        have hy : (enumL ys)[i]? = some y := hy
        unfold enumL at hy
        rw [List.getElem?_mapIdx] at hy
        obtain ⟨z, hz, rfl⟩ := Option.map_eq_some_iff.mp hy
        obtain ⟨w, e2, r1⟩ := r'.get hz
        have := hu us' s'
        rw [e2] at this
        cases this
        obtain ⟨le, rh2⟩ := RelH.frz (o := .tup [.int (i : Nat), x]) rh' nT
        refine ⟨_, le, rh2, ?_⟩
        simp only [Rep]
        exact ⟨T, _, rfl, upd_same, Reps.cons repI (Reps.cons (r1.mono le (Nat.le_refl _)) Reps.nil)⟩
    · exact q1.elim
  · exact q1.elim
@[simp] theorem srcEnum_tup (xs : List PV) (h : VH) : srcEnum [.tup xs] h = .ok ⟨enumL xs, []⟩ h := (rfl)
/-- reversed -/
def srcRev (x : PV) (h : VH) : Res Src := match x with
  | .tup xs => .ok ⟨xs.reverse, []⟩ h
  | x => match lstOf x h with
    | some xs => .ok ⟨xs.reverse, ckOf x h⟩ h
    | none => .bad
@[simp] theorem srcRev_tup (xs : List PV) (h : VH) : srcRev (.tup xs) h = .ok ⟨xs.reverse, []⟩ h := (rfl)
@[simp] theorem srcRev_lst (xs : List PV) (h : VH) : srcRev (.lst xs) h = .ok ⟨xs.reverse, []⟩ h := (rfl)
theorem rev_at {α : Type} {xs : List α} {i : Nat} {y : α} (hy : xs.reverse[i]? = some y) : xs[xs.length - 1 - i]? = some y := by
  have hi : i < xs.reverse.length := (List.getElem?_eq_some_iff.mp hy).1
  rw [List.length_reverse] at hi
  rwa [List.getElem?_reverse hi] at hy
def iRvs (m : EM) : LS → VH → Res Src := fun σ h => (m σ h).bind srcRev
theorem SI.rev (hg : Gl X "reversed") (hm : X.mg "reversed" = none) (he : SE c X W e m) (hs : starEach [e] X.env = (false, eval e X.env) :: starEach [] X.env := by rfl) : SI c X W tg (.Call (.Name "reversed" p) [e] [] pos) (iRvs m) := by
  obtain ⟨t, pe, s⟩ := he
  refine ⟨_, RT.pi_revA hg hm pe hs, fun g σ h τ H R rs rh q => s g σ h τ H _ rs rh ((Post.bind q).imp (fun u H1 ⟨g1, x, h1, m1, q1⟩ => ?_) fun _ _ _ z => z)⟩
  have rx := m1.rep
  unfold srcRev at q1
  split at q1
  · obtain ⟨a, us, rfl, s, r⟩ := tup_run rx m1.rel
    refine ⟨a, us, rfl, .inr ⟨.inl (.inl s), q1.go m1.rel ⟨_, _, by rw [List.length_reverse, r.length]; exact walkVT, fun g' h' H' l hn rh' _ => ?_, fun i y g' h' H' H2 l hn rh' _ hy u' hu => ?_⟩⟩⟩
    · obtain ⟨a', us', e, s', r'⟩ := tup_run (rx.mono0 l hn) rh'
      cases e
      exact ⟨us', .inl (.inl s'), r'.length⟩
    · obtain ⟨rfl, hu⟩ := hu
      obtain ⟨a', us', e, s', r'⟩ := tup_run (rx.mono0 l hn) rh'
      cases e
      obtain ⟨w, e1, r1⟩ := r'.get (rev_at hy)
      have := hu us' (.inl (.inl s'))
      rw [e1] at this
      cases this
      exact ⟨g', Gh.le.refl _ _, rh', r1⟩
  · split at q1
    · rename_i xs e0
      obtain ⟨a, us, rfl, s, r⟩ := lstOf_run rx m1.rel e0
      refine ⟨a, us, rfl, .inl ⟨s, q1.go m1.rel ⟨_, _, by rw [List.length_reverse, r.length]; exact walkV, fun g' h' H' l hn rh' ck => ?_, fun i y g' h' H' H2 l hn rh' ck hy u' hu => ?_⟩⟩⟩
      · obtain ⟨e1, rx'⟩ := keptL rx m1.rel e0 l hn rh' ck
        obtain ⟨a', us', e, s', r'⟩ := lstOf_run rx' rh' e1
        cases e
        exact ⟨us', s', r'.length⟩
      · obtain ⟨rfl, hu⟩ := hu
        obtain ⟨e1, rx'⟩ := keptL rx m1.rel e0 l hn rh' ck
        obtain ⟨a', us', e, s', r'⟩ := lstOf_run rx' rh' e1
        cases e
        obtain ⟨w, e2, r1⟩ := r'.get (rev_at hy)
        have := hu us' s'
        rw [e2] at this
        cases this
        exact ⟨g', Gh.le.refl _ _, rh', r1⟩
    · exact q1.elim
end
end Pm
namespace Pm
open PySem PySem.Spec L2 PyProof.Rows

/-! ### list comprehensions -/
def wipeL (σ : LS) : List Nat → LS
  | [] => σ
  | v :: vs => (wipeL σ vs).set v none
theorem RelS.wipe {K : Kc} {g : Gh} {n : Nat} {σ : LS} {τ : L2.St} (r : RelS K g n σ τ) : ∀ vs : List Nat, RelS K g n (wipeL σ vs) (L2.wipe τ vs)
  | [] => r
  | v :: vs => (RelS.wipe r vs).forget v
theorem wipe_set {τ : L2.St} {i : Nat} {u : Option V} : ∀ {vs : List Nat}, i ∈ vs → L2.wipe (τ.set i u) vs = L2.wipe τ vs
  | [], h => by cases h
  | v :: vs, h => by
    show (L2.wipe (τ.set i u) vs).set v none = (L2.wipe τ vs).set v none
    by_cases hm : i ∈ vs
    · rw [wipe_set hm]
    · have hv : i = v := (List.mem_cons.mp h).resolve_right hm
      subst hv
      have gen : ∀ (ws : List Nat), i ∉ ws → L2.wipe (τ.set i u) ws = (L2.wipe τ ws).set i u := by
        intro ws
        induction ws with
        | nil => intro _; rfl
        | cons w ws ih =>
          intro hw
          rw [List.mem_cons, not_or] at hw
          show (L2.wipe (τ.set i u) ws).set w none = ((L2.wipe τ ws).set w none).set i u
          rw [ih hw.2, List.set_comm _ _ hw.1]
      rw [gen vs hm, List.set_set]
/-- a target that touches the slots ws alone -/
abbrev RepW (K : Kc) (ws : List Nat) (τ : L2.St) : Gh → Nat → LS → L2.St → Prop := fun g n σ' τ' => RelS K g n σ' τ' ∧ L2.wipe τ' ws = L2.wipe τ ws
def SGw (c : Ck) (X : Cx) (e : Expr) (m : GM) (ws : List Nat) : Prop := ∃ t, PG X e t ∧ ∀ g σ h τ H v u N, RelS (kx c X) g h.length σ τ → RelH (kx c X) g h H → Rep (kx c X) g h.length v u → Post (kx c X) (RepW (kx c X) ws τ) g h.length N noX (m v σ h) → t u τ H N
def SGsw (c : Ck) (X : Cx) (es : List Expr) (m : GMs) (ws : List Nat) : Prop := ∃ t, PGs X es t ∧ ∀ g σ h τ H vs us N, RelS (kx c X) g h.length σ τ → RelH (kx c X) g h H → Reps (kx c X) g h.length vs us → Post (kx c X) (RepW (kx c X) ws τ) g h.length N noX (m vs σ h) → t us τ H N
section
variable {c : Ck} {X : Cx} {W : WX} {pos : Pos} {ws : List Nat}
theorem SGw.name {i : Nat} {x : Str} (hN : X.N.Nodup) (hi : X.N[i]? = some x) (hx : Loc X.env.scope x) (hw : i ∈ ws) (hf : X.fn x = true ∨ X.env.scope.names.lookup x = some .local := by first | exact .inl rfl | exact .inr rfl | assumption) : SGw c X (.Name x pos) (gSlot i) ws :=
  ⟨_, pg_name hN hi hx hf, fun g σ h τ H v u N rs rh rv q => q g _ H (Gh.le.refl _ _) (Nat.le_refl _) rh ⟨rs.set i rv, wipe_set hw⟩⟩
theorem SGsw.nil : SGsw c X [] gNil' ws := by
  refine ⟨_, pgs_nil, fun g σ h τ H vs us N rs rh rv q => ?_⟩
  cases vs with
  | nil =>
    simp only [Reps] at rv
    exact ⟨rv, q g τ H (Gh.le.refl _ _) (Nat.le_refl _) rh ⟨rs, rfl⟩⟩
  | cons v r => exact q.elim
theorem SGsw.cons {e : Expr} {es : List Expr} {m : GM} {ms : GMs} (h1 : SGw c X e m ws) (h2 : SGsw c X es ms ws) (hs : (assignEach (e :: es) X.env).map (·.2) = assign e X.env :: (assignEach es X.env).map (·.2) := by rfl) : SGsw c X (e :: es) (gCons' m ms) ws := by
  obtain ⟨t, p, s⟩ := h1
  obtain ⟨t2, p2, s2⟩ := h2
  refine ⟨_, pgs_cons p p2 hs, fun g σ h τ H vs us N rs rh rv q => ?_⟩
  cases vs with
  | nil => exact q.elim
  | cons v r =>
    simp only [Reps] at rv
    obtain ⟨u, us', rfl, r1, r2⟩ := rv
    refine ⟨u, us', rfl, ?_⟩
    refine s g σ h τ H v u _ rs rh r1 ((Post.bind (R := RepW (kx c X) ws τ) q).imp (fun τ1 H1 ⟨g1, σ1, h1, m1, q1⟩ => ?_) fun _ _ _ z => z)
    obtain ⟨rs1, ew⟩ := m1.rep
    refine s2 g1 σ1 h1 τ1 H1 r us' N rs1 m1.rel (r2.mono m1.le m1.len) ?_
    rw [show RepW (kx c X) ws τ1 = RepW (kx c X) ws τ by unfold RepW; rw [ew]]
    exact q1
theorem SGw.tup {es : List Expr} {k : Nat} {ms : GMs} {n : Nat} (hc : X.calm = true) (hs : SGsw c X es ms ws) (hn : (assignEach es X.env).length = n := by rfl) (hst : (assignEach es X.env).findIdx? (·.1) = none := by rfl) : SGw c X (.Tuple es k pos) (gTupM n ms) ws := by
  obtain ⟨t, p, s⟩ := hs
  refine ⟨_, pg_tup hc p hn hst, fun g σ h τ H v u N rs rh rv q => ?_⟩
  cases v with
  | tup xs =>
    simp only [Rep] at rv
    obtain ⟨a, us, rfl, sq, rr⟩ := rv
    rw [gTupM_tup] at q
    split at q
    · rename_i e
      exact ⟨a, us, rfl, .inl (.inl (rh.same _ _ sq)), rr.length.trans e, s g σ h τ H xs us N rs rh rr q⟩
    · exact q.elim
  | _ => exact q.elim
/-- the tests of a comprehension -/
def STs (c : Ck) (X : Cx) (W : WX) (es : List Expr) (m : TM) : Prop := ∃ t, PTs X es t ∧ ∀ g σ h τ H Q, RelS (kx c X) g h.length σ τ → RelH (kx c X) g h H → Post (kx c X) RepB g h.length Q (at_ W τ) (m σ h) → t τ H Q
def tYesM : TM := fun _ h => .ok true h
theorem STs.nil : STs c X W [] tYesM := ⟨_, pts_nil, fun g σ h τ H Q rs rh q => q g true H (Gh.le.refl _ _) (Nat.le_refl _) rh rfl⟩
theorem STs.one {e : Expr} {m : TM} (h : ST c X W e m) : STs c X W [e] m := by
  obtain ⟨t, p, s⟩ := h
  exact ⟨t, pts_one p, s⟩
end
/-- nothing may be raised -/
abbrev W0 : WX := fun _ _ _ _ => False
/-- what a model asks for, as a reading -/
def teOf (K : Kc) (m : EM) : TE := fun τ H Q => ∃ g σ h, RelS K g h.length σ τ ∧ RelH K g h H ∧ Post K (Rep K) g h.length Q (at_ W0 τ) (m σ h)
def ttOf (K : Kc) (m : TM) : TT := fun τ H Q => ∃ g σ h, RelS K g h.length σ τ ∧ RelH K g h H ∧ Post K RepB g h.length Q (at_ W0 τ) (m σ h)
def tgOf (K : Kc) (m : GM) (ws : List Nat) : TG := fun u τ H N => ∃ g σ h v, RelS K g h.length σ τ ∧ RelH K g h H ∧ Rep K g h.length v u ∧ Post K (RepW K ws τ) g h.length N noX (m v σ h)
section
variable {c : Ck} {X : Cx} {ws : List Nat} {e : Expr} {es : List Expr}
theorem SE.pe {m : EM} (h : SE c X W0 e m) : PE X e (teOf (kx c X) m) := by
  obtain ⟨t, p, s⟩ := h
  exact ⟨fun pins st τ H Q I ⟨g, σ, h, rs, rh, q⟩ => p.run pins st τ H Q I (s g σ h τ H Q rs rh q)⟩
theorem STs.pts {m : TM} (h : STs c X W0 es m) : PTs X es (ttOf (kx c X) m) := by
  obtain ⟨t, p, s⟩ := h
  exact ⟨fun pins st τ H Q I ⟨g, σ, h, rs, rh, q⟩ => p.run pins st τ H Q I (s g σ h τ H Q rs rh q)⟩
theorem SGw.pg {m : GM} (h : SGw c X e m ws) : PG X e (tgOf (kx c X) m ws) := by
  obtain ⟨t, p, s⟩ := h
  exact ⟨fun pins st τ H v u N I rv ⟨g, σ, h, v', rs, rh, rr, q⟩ => p.run pins st τ H v u N I rv (s g σ h τ H v' v N rs rh rr q)⟩
end
/-- no exception -/
def Res.nx {α : Type} : Res α → Res α
  | .exc _ _ => .bad
  | r => r
@[simp] theorem Res.nx_ok {α : Type} (a : α) (h : VH) : (Res.ok a h).nx = .ok a h := (rfl)
@[simp] theorem Res.nx_exc {α : Type} (a : PX) (h : VH) : (Res.exc a h : Res α).nx = .bad := (rfl)
@[simp] theorem Res.nx_bad {α : Type} : (Res.bad : Res α).nx = .bad := (rfl)
theorem Post.nx {α β : Type} {K : Kc} {R : Gh → Nat → α → β → Prop} {g : Gh} {n : Nat} {Q : β → Hp → Prop} {E E' : XK} {r : Res α} (p : Post K R g n Q E r.nx) : Post K R g n Q E' r := by
  cases r with
  | ok a h => exact p
  | exc e h => exact p.elim
  | bad => exact p
open Classical in
noncomputable def compL (ck : List (Nat × List PV)) (ws : List Nat) (gm : GM) (mt : TM) (me : EM) (σ : LS) : List PV → List PV → VH → Res (List PV)
  | [], acc, h => if ckOk ck h then .ok acc h else .bad
  | x :: xs, acc, h => if ckOk ck h then ((gm x (wipeL σ ws) h).nx).bind fun σ2 h2 => ((mt σ2 h2).nx).bind fun b h3 =>
      if b = true then ((me σ2 h3).nx).bind fun y h4 => if acc.length < 16777216 then compL ck ws gm mt me σ xs (acc ++ [y]) h4 else .bad
      else compL ck ws gm mt me σ xs acc h3
    else .bad
noncomputable def eLc (cell : Bool) (ms : LS → VH → Res Src) (ws : List Nat) (gm : GM) (mt : TM) (me : EM) : EM := fun σ h => (ms σ h).bind fun s h1 => (compL s.ck ws gm mt me σ s.xs [] h1).bind fun acc h2 => mkL cell acc h2

/-- g, the list at D watched -/
def Gh.wat (g : Gh) (D : Addr) (us : List V) : Gh := { g with pr := fun a => if a = D then some (.lst us) else g.pr a }
theorem Gh.wat_le0 (g : Gh) (n : Nat) (D : Addr) (us : List V) : g.le0 n (g.wat D us) := ⟨Same.refl _, fun _ _ => rfl⟩
theorem Gh.le0_wat {g g' : Gh} {n : Nat} {D : Addr} {us : List V} (l : g.le0 n g') : g.le0 n (g'.wat D us) := ⟨l.same, l.rho⟩
theorem RelH.watch {K : Kc} {g : Gh} {h : VH} {H : Hp} {D : Addr} {us : List V} (r : RelH K g h H) (nD : H D = none) : RelH K (g.wat D us) h (upd H D (.lst us)) := by
  refine ⟨fun b w e => ?_, fun i q e d => ?_, fun i q e d => r.sep i q e d, r.inj, fun b w e => ?_, fun a2 dd e2 z => let ⟨gs, e3, e4⟩ := r.ex a2 dd e2 z; ⟨gs, e3, e4.mono0 (g.wat_le0 _ D us) (Nat.le_refl _)⟩⟩
  · have := r.same b w e
    rw [upd_ne (ne_of_none this nD)]; exact this
  · obtain ⟨u, hu, ru⟩ := r.cell i q e d
    exact ⟨u, by show upd H D (.lst us) (g.ρ i) = _; rw [upd_ne (ne_of_none hu nD)]; exact hu, ru.mono0 (g.wat_le0 _ D us) (Nat.le_refl _)⟩
  · have e : (if b = D then some (HO.lst us) else g.pr b) = some w := e
    by_cases hb : b = D
    · subst hb
      rw [if_pos rfl] at e
      cases e
      refine ⟨upd_same, r.same.free nD, fun i p e' d z => ?_⟩
      obtain ⟨u, hu, _⟩ := r.cell i p e' d
      have z : g.ρ i = b := z
      rw [z, nD] at hu; cases hu
    · rw [if_neg hb] at e
      obtain ⟨h1, h2, h3⟩ := r.fr b w e
      exact ⟨by rw [upd_ne hb]; exact h1, h2, h3⟩
/-- the watched list written anew -/
theorem RelH.rewatch {K : Kc} {g : Gh} {h : VH} {H : Hp} {D : Addr} {us vs : List V} (r : RelH K g h H) (w : g.pr D = some (.lst us)) : RelH K (g.wat D vs) h (upd H D (.lst vs)) := by
  obtain ⟨hD, fD, cD⟩ := r.fr D _ w
  refine ⟨fun b w e => ?_, fun i q e d => ?_, fun i q e d => r.sep i q e d, r.inj, fun b w e => ?_, fun a2 dd e2 z => let ⟨gs, e3, e4⟩ := r.ex a2 dd e2 z; ⟨gs, e3, e4.mono0 (g.wat_le0 _ D vs) (Nat.le_refl _)⟩⟩
  · have nb : b ≠ D := fun z => by
      have e : g.Hf b = some w := e
      rw [z, fD] at e; cases e
    rw [upd_ne nb]; exact r.same b w e
  · obtain ⟨u, hu, ru⟩ := r.cell i q e d
    exact ⟨u, by show upd H D (.lst vs) (g.ρ i) = _; rw [upd_ne (cD i q e d)]; exact hu, ru.mono0 (g.wat_le0 _ D vs) (Nat.le_refl _)⟩
  · have e : (if b = D then some (HO.lst vs) else g.pr b) = some w := e
    by_cases hb : b = D
    · subst hb
      rw [if_pos rfl] at e
      cases e
      exact ⟨upd_same, fD, cD⟩
    · rw [if_neg hb] at e
      obtain ⟨h1, h2, h3⟩ := r.fr b w e
      exact ⟨by rw [upd_ne hb]; exact h1, h2, h3⟩
/-- the watched list let go: it is nobody's, then a new thing at D -/
theorem mkL_at {K : Kc} {g g0 : Gh} {h : VH} {H : Hp} {D : Addr} {cell : Bool} {xs : List PV} {us : List V} {Q : VK} {E : XK} {n : Nat} (rh : RelH K g h H) (w : g.pr D = some (.lst us)) (r : Reps K g h.length xs us)
    (l : g0.le0 n g) (hn : n ≤ h.length) (np : ∀ a, a ≠ D → g.pr a = g0.pr a) (n0 : g0.pr D = none) (p : Post K (Rep K) g0 n Q E (mkL cell xs h)) : Q (.ref D) H := by
  obtain ⟨hD, fD, cD⟩ := rh.fr D _ w
  have pe : ∀ a o, g0.pr a = some o → a ≠ D ∧ g.pr a = some o := fun a o e => by
    have : a ≠ D := fun z => by rw [z, n0] at e; cases e
    exact ⟨this, (np a this).trans e⟩
  cases cell with
  | false =>
    let g2 : Gh := { g with Hf := upd g.Hf D (.lst us), pr := g0.pr }
    have le2 : g.le0 h.length g2 := ⟨fun b w e => (upd_ne (ne_of_none e fD)).trans e, fun _ _ => rfl⟩
    have rh2 : RelH K g2 h H := by
      refine ⟨fun b w e => ?_, fun i q e d => ?_, fun i q e d => ?_, rh.inj, fun b w e => ?_, fun a2 dd e2 z => let ⟨gs, e3, e4⟩ := rh.ex a2 dd e2 z; ⟨gs, le2.same _ _ e3, e4.mono0 le2 (Nat.le_refl _)⟩⟩
      · have e : upd g.Hf D (.lst us) b = some w := e
        by_cases hb : b = D
        · subst hb; rw [upd_same] at e; cases e; exact hD
        · rw [upd_ne hb] at e; exact rh.same _ _ e
      · obtain ⟨u, hu, ru⟩ := rh.cell i q e d
        exact ⟨u, hu, ru.mono0 le2 (Nat.le_refl _)⟩
      · show upd g.Hf D (.lst us) (g.ρ i) = none
        rw [upd_ne (cD i q e d)]; exact rh.sep i q e d
      · obtain ⟨nb, e'⟩ := pe b w e
        obtain ⟨h1, h2, h3⟩ := rh.fr b w e'
        exact ⟨h1, by show upd g.Hf D (.lst us) b = none; rw [upd_ne nb]; exact h2, h3⟩
    refine p g2 _ H ⟨(l.trans le2 hn).same, (l.trans le2 hn).rho, rfl⟩ hn rh2 ?_
    simp only [Rep]
    exact ⟨D, us, rfl, upd_same, r.mono0 le2 (Nat.le_refl _)⟩
  | true =>
    let g2 : Gh := { g with ρ := fun i => if i = h.length then D else g.ρ i, pr := g0.pr }
    have le2 : g.le0 h.length g2 := ⟨Same.refl _, fun i hi => if_neg (Nat.ne_of_lt hi)⟩
    have ρe : ∀ {i}, i < h.length → (if i = h.length then D else g.ρ i) = g.ρ i := fun hi => if_neg (Nat.ne_of_lt hi)
    have old : ∀ {i p}, (h ++ [PO.lst xs])[i]? = some p → (i < h.length ∧ h[i]? = some p) ∨ (i = h.length ∧ p = PO.lst xs) := fun {i p} e => by
      by_cases hi : i < h.length
      · rw [List.getElem?_append_left hi] at e; exact .inl ⟨hi, e⟩
      · rw [List.getElem?_append_right (by omega)] at e
        have : i - h.length = 0 := by
          cases q : i - h.length with
          | zero => rfl
          | succ k => rw [q] at e; simp at e
        rw [this] at e
        exact .inr ⟨by omega, by simpa using e.symm⟩
    have rh2 : RelH K g2 (h ++ [.lst xs]) H := by
      refine ⟨rh.same, fun i q e d => ?_, fun i q e d => ?_, fun i j q1 q2 e d e' d' z => ?_, fun b w e => ?_, fun a2 dd e2 z => let ⟨gs, e3, e4⟩ := rh.ex a2 dd e2 z; ⟨gs, e3, by rw [List.length_append]; exact e4.mono0 le2 (Nat.le_add_right _ _)⟩⟩
      · rcases old e with ⟨hi, e⟩ | ⟨rfl, rfl⟩
        · obtain ⟨u, hu, ru⟩ := rh.cell i q e d
          refine ⟨u, by show H (if i = h.length then D else g.ρ i) = _; rw [ρe hi]; exact hu, ?_⟩
          rw [List.length_append]; exact ru.mono0 le2 (Nat.le_add_right _ _)
        · refine ⟨.lst us, by show H (if h.length = h.length then D else _) = _; rw [if_pos rfl]; exact hD, us, rfl, ?_⟩
          rw [List.length_append]; exact r.mono0 le2 (Nat.le_add_right _ _)
      · show g.Hf (if i = h.length then D else g.ρ i) = none
        rcases old e with ⟨hi, e⟩ | ⟨rfl, rfl⟩
        · rw [ρe hi]; exact rh.sep i q e d
        · rw [if_pos rfl]; exact fD
      · have z : (if i = h.length then D else g.ρ i) = (if j = h.length then D else g.ρ j) := z
        rcases old e with ⟨hi, e1⟩ | ⟨ei, eo⟩
        · rcases old e' with ⟨hj, e2⟩ | ⟨ej, eo'⟩
          · rw [ρe hi, ρe hj] at z; exact rh.inj i j q1 q2 e1 d e2 d' z
          · rw [ρe hi, if_pos ej] at z; exact absurd z (cD i q1 e1 d)
        · rcases old e' with ⟨hj, e2⟩ | ⟨ej, eo'⟩
          · rw [ρe hj, if_pos ei] at z; exact absurd z.symm (cD j q2 e2 d')
          · rw [ei, ej]
      · obtain ⟨nb, e'⟩ := pe b w e
        obtain ⟨h1, h2, h3⟩ := rh.fr b w e'
        refine ⟨h1, h2, fun i p e2 d => ?_⟩
        show (if i = h.length then D else g.ρ i) ≠ b
        rcases old e2 with ⟨hi, e2⟩ | ⟨ei, eo⟩
        · rw [ρe hi]; exact h3 i p e2 d
        · rw [if_pos ei]; exact nb.symm
    refine p g2 _ H ⟨(l.trans le2 hn).same, (l.trans le2 hn).rho, rfl⟩ (by simp; omega) rh2 ?_
    simp only [Rep]
    exact ⟨by simp, by simp [g2]⟩
/-- n bigger, g let be: pr may differ -/
theorem Post.up0 {α β : Type} {K : Kc} {R : Gh → Nat → α → β → Prop} {g g1 : Gh} {n n1 : Nat} {Q : β → Hp → Prop} {E : XK} {r : Res α} (h : Post K R g n Q E r) (l : g.le0 n g1) (hp : g1.pr = g.pr) (hn : n ≤ n1) : Post K R g1 n1 Q E r :=
  Post.up h ⟨l.same, l.rho, hp⟩ hn
theorem Post.bind0 {α β γ δ : Type} {K : Kc} {R : Gh → Nat → α → β → Prop} {R' : Gh → Nat → γ → δ → Prop} {g : Gh} {n : Nat} {E E' : XK} {r : Res α} {k : α → VH → Res γ} {P : β → Hp → Prop} (hb : r.nx.bind k ≠ .bad)
    (hk : ∀ a h' g' u H', r = .ok a h' → g.le n g' → n ≤ h'.length → RelH K g' h' H' → R g' h'.length a u → P u H') : Post K R g n P E r := by
  cases r with
  | ok a h' => exact fun g' u H' l hn rh ra => hk a h' g' u H' rfl l hn rh ra
  | exc e h' => exact (hb rfl).elim
  | bad => exact (hb rfl).elim
section
variable {c : Ck} {X : Cx} {W : WX} {pos : Pos}
theorem comp_run {ck : List (Nat × List PV)} {ws : List Nat} {gm : GM} {mt : TM} {me : EM} {cell : Bool} {src : Src} {K : Kc} {g0 : Gh} {h0 : VH} {H0 : Hp} {J : It} {D : Addr} {Q : VK} {E : XK} {σ : LS} {τ : L2.St}
    (so : SrcOk K g0 h0.length src J) (rs : RelS K g0 h0.length σ τ) (rh : RelH K g0 h0 H0) (nD : H0 D = none)
    (q : Post K (Rep K) g0 h0.length Q E ((compL src.ck ws gm mt me σ src.xs [] h0).bind fun acc h2 => mkL cell acc h2)) :
    ∃ W : Nat → Nat → Hp → Prop, (∃ m, W 0 m (upd H0 D (.lst []))) ∧ ∀ i m H, W i m H →
      (J.stop i H ∧ Q (.ref D) H) ∨ (J.go i H ∧ ∃ Nx : Hp → Prop, (∀ H', Nx H' → ∃ m', m' < m ∧ W (i + 1) m' H') ∧ ∀ x H', J.yld i H x H' → tgOf K gm ws x (L2.wipe τ ws) H' fun τ2 H2 => L2.wipe τ2 ws = L2.wipe τ ws ∧ ttOf K mt τ2 H2 fun b H3 =>
        if b = true then teOf K me τ2 H3 fun y H4 => ∃ acc, H4 D = some (.lst acc) ∧ acc.length < sizeLine ∧ Nx (upd H4 D (.lst (acc ++ [y]))) else Nx H3) := by
  obtain ⟨Gp, Y, wk, hG, hY⟩ := so
  have p0 : g0.pr D = none := by
    cases z : g0.pr D with
    | none => rfl
    | some o => have := (rh.fr D o z).1; rw [nD] at this; cases this
  let Pv : Nat → Hp → Prop := fun i H => ∃ g' h' acc us, g0.le0 h0.length g' ∧ h0.length ≤ h'.length ∧ RelH K g' h' H ∧ g'.pr D = some (.lst us) ∧ (∀ a, a ≠ D → g'.pr a = g0.pr a) ∧ Reps K g' h'.length acc us ∧
    Post K (Rep K) g0 h0.length Q E ((compL src.ck ws gm mt me σ (src.xs.drop i) acc h').bind fun acc h2 => mkL cell acc h2)
  have ckof : ∀ {xs acc h'}, Post K (Rep K) g0 h0.length Q E ((compL src.ck ws gm mt me σ xs acc h').bind fun acc h2 => mkL cell acc h2) → ckOk src.ck h' := fun {xs acc h'} q => by
    by_cases hc : ckOk src.ck h'
    · exact hc
    · cases xs with
      | nil => unfold compL at q; rw [if_neg hc] at q; exact q.elim
      | cons y ys => unfold compL at q; rw [if_neg hc] at q; exact q.elim
  refine lc_it wk Pv ?_ (fun i H hi hh => ?_) (fun i x H H' hi hh hy => ?_) (fun H hh => ?_)
  · exact ⟨g0.wat D [], h0, [], [], g0.wat_le0 _ _ _, Nat.le_refl _, rh.watch nD, if_pos rfl, fun a ha => if_neg ha, Reps.nil, q⟩
  · obtain ⟨g', h', acc, us, l, hn, rh', w, np, ra, q'⟩ := hh
    exact hG g' h' H l hn rh' (ckof q')
  · obtain ⟨g', h', acc, us, l, hn, rh', w, np, ra, q'⟩ := hh
    have hx : src.xs.drop i = src.xs[i] :: src.xs.drop (i + 1) := List.drop_eq_getElem_cons hi
    have hck := ckof q'
    rw [hx] at q'
    unfold compL at q'
    rw [if_pos hck] at q'
    obtain ⟨g2, l2, rh2, rx⟩ := hY i _ g' h' H H' l hn rh' hck (List.getElem?_eq_getElem hi) x hy
    have rsw : RelS K g2 h'.length (wipeL σ ws) (L2.wipe τ ws) := ((rs.mono0 l hn).mono l2 (Nat.le_refl _)).wipe ws
    refine ⟨g2, wipeL σ ws, h', src.xs[i], rsw, rh2, rx, ?_⟩
    cases e1 : gm src.xs[i] (wipeL σ ws) h' with
    | exc e h2 => rw [e1] at q'; exact q'.elim
    | bad => rw [e1] at q'; exact q'.elim
    | ok σ2 h2 =>
    rw [e1, Res.nx_ok, Res.bind_ok] at q'
    intro g3 τ2 H3 l3 hn3 rh3 ⟨rs3, ew⟩
    have ww : L2.wipe (L2.wipe τ ws) ws = L2.wipe τ ws := by
      have gen : ∀ (σ : L2.St) (vs us : List Nat), (∀ v ∈ vs, v ∈ us) → L2.wipe (L2.wipe σ vs) us = L2.wipe σ us := by
        intro σ vs
        induction vs with
        | nil => intro us _; rfl
        | cons v vs ih =>
          intro us hm
          show L2.wipe ((L2.wipe σ vs).set v none) us = _
          rw [wipe_set (hm v List.mem_cons_self), ih us fun w hw => hm w (List.mem_cons_of_mem _ hw)]
      exact gen τ ws ws fun _ h => h
    refine ⟨ew.trans ww, g3, σ2, h2, rs3, rh3, ?_⟩
    cases e2 : mt σ2 h2 with
    | exc e h2 => rw [e2] at q'; exact q'.elim
    | bad => rw [e2] at q'; exact q'.elim
    | ok b h3 =>
    rw [e2, Res.nx_ok, Res.bind_ok] at q'
    intro g4 b' H4 l4 hn4 rh4 eb
    obtain rfl : b' = b := eb
    have l14 : g'.le h'.length g4 := (l2.trans l3 (Nat.le_refl _)).trans l4 (Nat.le_trans (Nat.le_refl _) hn3)
    have hn14 : h'.length ≤ h3.length := Nat.le_trans hn3 hn4
    cases b' with
    | false =>
      rw [if_neg Bool.false_ne_true] at q' ⊢
      exact ⟨g4, h3, acc, us, l.trans l14.to0 hn, Nat.le_trans hn hn14, rh4, by rw [l14.pr]; exact w, fun a ha => by rw [l14.pr]; exact np a ha, ra.mono l14 hn14, q'⟩
    | true =>
      rw [if_pos rfl] at q' ⊢
      refine ⟨g4, σ2, h3, rs3.mono l4 hn4, rh4, ?_⟩
      cases e3 : me σ2 h3 with
      | exc e h2 => rw [e3] at q'; exact q'.elim
      | bad => rw [e3] at q'; exact q'.elim
      | ok y h4 =>
      rw [e3, Res.nx_ok, Res.bind_ok] at q'
      intro g5 u H5 l5 hn5 rh5 ru
      have l15 : g'.le h'.length g5 := l14.trans l5 hn14
      have hn15 : h'.length ≤ h4.length := Nat.le_trans hn14 hn5
      by_cases hz : acc.length < 16777216
      · rw [if_pos hz] at q'
        have w5 : g5.pr D = some (.lst us) := by rw [l15.pr]; exact w
        have la := ra.length
        refine ⟨us, (rh5.fr D _ w5).1, by rw [sizeLine_eq]; omega, g5.wat D (us ++ [u]), h4, acc ++ [y], us ++ [u], Gh.le0_wat (l.trans l15.to0 hn), Nat.le_trans hn hn15, rh5.rewatch w5, if_pos rfl, fun a ha => ?_, ?_, q'⟩
        · show (if a = D then _ else g5.pr a) = _
          rw [if_neg ha, l15.pr]; exact np a ha
        · exact ((ra.mono l15 hn15).append (Reps.cons ru Reps.nil)).mono0 (g5.wat_le0 _ _ _) (Nat.le_refl _)
      · rw [if_neg hz] at q'; exact q'.elim
  · obtain ⟨g', h', acc, us, l, hn, rh', w, np, ra, q'⟩ := hh
    have hck := ckof q'
    rw [List.drop_length] at q'
    unfold compL at q'
    rw [if_pos hck, Res.bind_ok] at q'
    exact mkL_at rh' w ra l hn np p0 q'
variable {elt tg iter : Expr} {ifs : List Expr} {scope : Scope} {own : List (Str × Nat)} {ms : LS → VH → Res Src} {gm : GM} {mt : TM} {me : EM}
theorem SE.lc (cell : Bool) (hc : X.calm = true) (hN : X.N.Nodup) (hi : SI c X W tg iter ms) (ok : BlkOk X.N X.env.scope scope own)
    (hg : ∀ (s : Shared) (H : Hp) (C : Addr) (cl : List (Str × Addr)) (fp : List Addr), SGw c (X.blk s H scope (compEnvC scope cl C X.env) fp) tg gm (own.map (·.2)))
    (ht : ∀ (s : Shared) (H : Hp) (C : Addr) (cl : List (Str × Addr)) (fp : List Addr), STs c (X.blk s H scope (compEnvC scope cl C X.env) fp) W0 ifs mt)
    (he : ∀ (s : Shared) (H : Hp) (C : Addr) (cl : List (Str × Addr)) (fp : List Addr), SE c (X.blk s H scope (compEnvC scope cl C X.env) fp) W0 elt me) (hs : ∀ x, foldedSetIterable iter X.env x = pure x := by intro _; rfl) :
    SE c X W (.ListComp elt [⟨tg, iter, ifs, 0⟩] scope pos) (eLc cell ms (own.map (·.2)) gm mt me) := by
  obtain ⟨ti, pi, si⟩ := hi
  refine ⟨_, pe_lc (te := teOf (kx c X) me) (tt := ttOf (kx c X) mt) (g := tgOf (kx c X) gm (own.map (·.2))) hc hN pi ok (fun s H C cl fp => (hg s H C cl fp).pg) (fun s H C cl fp => (ht s H C cl fp).pts) (fun s H C cl fp => (he s H C cl fp).pe) hs, fun g σ h τ H Q rs rh q => ?_⟩
  refine si g σ h τ H _ rs rh ((Post.bind q).imp (fun J H1 ⟨g1, src, h1, m1, q1⟩ => fun D nD => ?_) fun _ _ _ z => z)
  exact comp_run (ck := []) m1.rep (rs.mono m1.le m1.len) m1.rel nD q1
theorem S1.setLc (cell : Bool) {i : Nat} {y : Str} {py spos : Pos} (hc : X.calm = true) (hN : X.N.Nodup) (hy : X.N[i]? = some y) (hyl : X.env.scope.names.lookup y = some .local)
    (hsw : swapsWith (.ListComp elt [⟨tg, iter, ifs, 0⟩] scope pos) (some (.Name y py)) spos.line X.env = pure true) (hi : SI c X W tg iter ms) (ok : BlkOk X.N X.env.scope scope own)
    (hg : ∀ (s : Shared) (H : Hp) (C : Addr) (cl : List (Str × Addr)) (fp : List Addr), SGw c (X.blk s H scope (compEnvC scope cl C X.env) fp) tg gm (own.map (·.2)))
    (ht : ∀ (s : Shared) (H : Hp) (C : Addr) (cl : List (Str × Addr)) (fp : List Addr), STs c (X.blk s H scope (compEnvC scope cl C X.env) fp) W0 ifs mt)
    (he : ∀ (s : Shared) (H : Hp) (C : Addr) (cl : List (Str × Addr)) (fp : List Addr), SE c (X.blk s H scope (compEnvC scope cl C X.env) fp) W0 elt me) (hs : ∀ x, foldedSetIterable iter X.env x = pure x := by intro _; rfl) :
    S1 c X W (.Assign [.Name y py] (.ListComp elt [⟨tg, iter, ifs, 0⟩] scope pos) spos) (sSet i (eLc cell ms (own.map (·.2)) gm mt me)) := by
  obtain ⟨ti, pi, si⟩ := hi
  refine ⟨_, ps_setLc (te := teOf (kx c X) me) (tt := ttOf (kx c X) mt) (g := tgOf (kx c X) gm (own.map (·.2))) hc hN hy hyl hsw pi ok (fun s H C cl fp => (hg s H C cl fp).pg) (fun s H C cl fp => (ht s H C cl fp).pts) (fun s H C cl fp => (he s H C cl fp).pe) hs, fun g σ h τ H D rs rh q => ?_⟩
  have q' : Post (kx c X) (Rep (kx c X)) g h.length (fun u H1 => gName i u τ H1 D.nx) (at_ W τ) (eLc cell ms (own.map (·.2)) gm mt me σ h) :=
    (PostS.then rs q).imp (fun u H1 ⟨g1, x, h1, m1, q1⟩ => q1 g1 _ H1 (Gh.le.refl _ _) (Nat.le_refl _) m1.rel ((rs.mono m1.le m1.len).set i m1.rep)) fun _ _ _ z => z
  refine si g σ h τ H _ rs rh ((Post.bind q').imp (fun J H1 ⟨g1, src, h1, m1, q1⟩ => fun D nD => ?_) fun _ _ _ z => z)
  exact comp_run (ck := []) m1.rep (rs.mono m1.le m1.len) m1.rel nD q1
end
end Pm
namespace Pm
open PySem PySem.Spec L2 PyProof.Rows

/-! ### repr -/
mutual
def wt : PyData → Nat
  | .none => 4
  | .bool _ => 5
  | .int i => i.natAbs.log2 + 3
  | .str s => 10 * s.length + 2
  | .list xs => wtAll xs + 4
  | .tuple xs => wtAll xs + 4
  | .dict _ => 0
def wtAll : List PyData → Nat
  | [] => 0
  | x :: xs => wt x + 2 + wtAll xs
end
@[simp] theorem wt_int (i : Int) : wt (.int i) = i.natAbs.log2 + 3 := by simp [wt]
@[simp] theorem wt_str (i : Str) : wt (.str i) = 10 * i.length + 2 := by simp [wt]
@[simp] theorem wt_bool (i : Bool) : wt (.bool i) = 5 := by simp [wt]
@[simp] theorem wt_none : wt .none = 4 := by simp [wt]
@[simp] theorem wt_list (xs : List PyData) : wt (.list xs) = wtAll xs + 4 := by simp [wt]
@[simp] theorem wt_tuple (xs : List PyData) : wt (.tuple xs) = wtAll xs + 4 := by simp [wt]
@[simp] theorem wtAll_nil : wtAll [] = 0 := by simp [wtAll]
@[simp] theorem wtAll_cons (x : PyData) (xs : List PyData) : wtAll (x :: xs) = wt x + 2 + wtAll xs := by simp [wtAll]
@[simp] theorem wtAll_append : ∀ (xs ys : List PyData), wtAll (xs ++ ys) = wtAll xs + wtAll ys
  | [], ys => by simp
  | x :: xs, ys => by simp [wtAll_append xs ys]; omega
theorem wtAll_le {B : Nat} : ∀ {xs : List PyData}, (∀ x ∈ xs, wt x ≤ B) → wtAll xs ≤ xs.length * (B + 2)
  | [], _ => by simp
  | x :: xs, h => by
    have h1 := h x List.mem_cons_self
    have h2 := wtAll_le fun y hy => h y (List.mem_cons_of_mem _ hy)
    rw [wtAll_cons, List.length_cons, Nat.succ_mul]; omega
theorem join_len (sep : Str) : ∀ (xs : List Str), (Str.join sep xs).length ≤ (xs.map (·.length + sep.length)).sum
  | [] => by simp [Str.join, Str.length, Str.empty]
  | [x] => by simp [Str.join]
  | x :: y :: r => by
    have h := join_len sep (y :: r)
    show (x ++ sep ++ Str.join sep (y :: r)).length ≤ _
    rw [Str.length_append, Str.length_append]
    simp only [List.map_cons, List.sum_cons] at h ⊢
    omega
theorem ofStr_len (x : String) : (Str.ofString x).length = x.length := PySem.ofString_length x
theorem textFrom_up : ∀ (ts : List Str) (k : Nat) (acc : Str), (textFrom k acc ts).length ≤ acc.length + (ts.map (·.length + 2)).sum
  | [], k, acc => by simp [textFrom]
  | t :: r, k, acc => by
    have h := textFrom_up r (k + 1) (acc ++ (if k > 0 then ", " else "" : String) ++ t)
    have e : (acc ++ ((if k > 0 then ", " else "" : String) : Str) ++ t).length ≤ acc.length + 2 + t.length := by
      rw [Str.length_append, Str.length_append]
      have e1 : (", " : Str).length = 2 := by decide
      have e2 : ("" : Str).length = 0 := by decide
      split <;> omega
    have g : textFrom k acc (t :: r) = textFrom (k + 1) (acc ++ (if k > 0 then ", " else "" : String) ++ t) r := rfl
    rw [g]
    simp only [List.map_cons, List.sum_cons]
    omega
mutual
theorem shown_len : ∀ d : PyData, d.canLay0 = true → d.showable = true → d.shown.length ≤ wt d
  | .none, _, _ => by rw [wt_none]; unfold PyData.shown; decide
  | .bool b, _, _ => by rw [wt_bool]; cases b <;> (unfold PyData.shown; decide)
  | .int i, _, h => by
    rw [wt_int]
    unfold PyData.shown
    show (Str.ofString (toString i)).length ≤ _
    rw [ofStr_len]
    have := PySem.int_text_length_le (a := i) (k := i.natAbs.log2 + 1) (Nat.succ_pos _) (Nat.lt_succ_self _)
    omega
  | .str x, h, _ => by
    rw [wt_str]
    unfold PyData.shown
    refine StrLaws.reprText_len x fun c hc => ?_
    have h2 : PyData.strOk x = true := by simpa [PyData.canLay0] using h
    have h3 := Array.all_eq_true_iff_forall_mem.mp h2 c (Array.mem_toList_iff.mp hc)
    have h4 : c < 0x110000 := by simpa using h3
    have e : (16 : Nat) ^ 8 = 4294967296 := by decide
    omega
  | .list xs, h, h' => by
    rw [wt_list]
    unfold PyData.shown
    have a := shownAll_len xs (by simpa [PyData.canLay0] using h) (by simpa [PyData.showable] using h')
    have b := textFrom_up (PyData.shownAll xs) 0 "["
    have e1 : ("[" : Str).length = 1 := by decide
    have e2 : ("]" : Str).length = 1 := by decide
    unfold listText
    rw [Str.length_append]
    omega
  | .tuple xs, h, h' => by
    rw [wt_tuple]
    unfold PyData.shown
    have a := shownAll_len xs (by simpa [PyData.canLay0] using h) (by simpa [PyData.showable] using h')
    have b := join_len ", " (PyData.shownAll xs)
    have e : (", " : Str).length = 2 := by decide
    have e1 : ("(" : Str).length = 1 := by decide
    have e2 : (")" : Str).length = 1 := by decide
    have e3 : (",)" : Str).length = 2 := by decide
    have e4 : ("()" : Str).length = 2 := by decide
    have c : (tupleText (PyData.shownAll xs)).length ≤ (Str.join ", " (PyData.shownAll xs)).length + 3 := by
      unfold tupleText
      split <;> simp only [Str.length_append, e1, e2, e3, e4, Str.join] <;> omega
    rw [e] at b
    omega
  | .dict _, h, _ => by simp [PyData.canLay0] at h
theorem shownAll_len : ∀ ds : List PyData, PyData.canLayAll0 ds = true → PyData.showableAll ds = true → ((PyData.shownAll ds).map (·.length + 2)).sum ≤ wtAll ds
  | [], _, _ => by simp [PyData.shownAll]
  | d :: ds, h, h' => by
    have h1 : d.canLay0 = true ∧ PyData.canLayAll0 ds = true := by simpa [PyData.canLayAll0] using h
    have h2 : d.showable = true ∧ PyData.showableAll ds = true := by simpa [PyData.showableAll] using h'
    have a := shown_len d h1.1 h2.1
    have b := shownAll_len ds h1.2 h2.2
    simp only [PyData.shownAll, List.map_cons, List.sum_cons, wtAll_cons]
    omega
end

/-- what repr may be asked of -/
def okR (d : PyData) : Prop := d.canLay0 = true ∧ d.showable = true ∧ wt d ≤ 16777216
def reprP (x : PV) (h : VH) : Res PV := match dat h x with
  | some d => if d.canLay0 = true ∧ d.showable = true ∧ wt d ≤ 16777216 then .ok (.str d.shown) h else .bad
  | none => .bad
theorem reprP_ok {x : PV} {h : VH} {d : PyData} (e : dat h x = some d) (z : okR d) : reprP x h = .ok (.str d.shown) h := by
  unfold reprP
  rw [e]
  exact if_pos z
section
variable {c : Ck} {X : Cx} {W : WX} {pos : Pos}
def rReprD (K : PySem.W.Frag) : List V → Hp → VK → Prop := fun xs H Q => ∃ x d, xs = [x] ∧ Dp K H x d ∧ d.canLay0 = true ∧ d.showable = true ∧ d.depth ≤ 40 ∧ d.shown.length ≤ sizeLine ∧ Q (.str d.shown) H
theorem call_reprD (hgd : X.A.guards = some []) (hu : X.A.units + 64 < cLine) : CallR X (.builtin "repr") (rReprD X.K) := by
  intro pins s σ H xs us Q I r h
  obtain ⟨x, d, rfl, dp, cl, sh, dd, sz, q⟩ := h
  obtain ⟨u, rfl, rx⟩ := vals1 r
  have seq : ∀ {a : Addr}, u = .ref a → wpAny (model X.prog X.w) X.A (call (.builtin "repr") [u]) (EP X pins σ Q) X.xe s := fun {a} e => by
    obtain ⟨as, rd⟩ := Dp.reads I d x u dp rx
    subst e
    exact repr_of_reads' rd sh (PyData.noDict_hsm (PyData.hasDict_of_canLay d cl)) hgd (by omega) (fun _ _ z => z) (fun h' t tk hk => ⟨.str d.shown, H, I.kept hk, ⟨_, rfl⟩, q⟩) sz
  cases dp with
  | non =>
    cases (show u = Value.none from rx)
    exact PySem.P.repr_of_none ⟨.str _, H, I.tok _, ⟨_, rfl⟩, by simpa only [PyData.shown] using q⟩
  | bl b =>
    cases (show u = Value.bool b from rx)
    exact PySem.P.repr_of_bool ⟨.str _, H, I.tok _, ⟨_, rfl⟩, by simpa only [PyData.shown] using q⟩
  | int i =>
    obtain ⟨t, rfl⟩ := (show ∃ t, u = Value.int i t from rx)
    exact PySem.P.repr_of_int (by simpa [PyData.showable] using sh) ⟨.str _, H, I.tok _, ⟨_, rfl⟩, by simpa only [PyData.shown] using q⟩
  | str z =>
    obtain ⟨t, rfl⟩ := (show ∃ t, u = Value.str z t from rx)
    exact PySem.P.repr_of_str ⟨.str _, H, I.tok _, ⟨_, rfl⟩, by simpa only [PyData.shown] using q⟩ (by simpa only [PyData.shown] using sz)
  | lst _ _ => exact seq rx
  | tup _ _ => exact seq rx
theorem reprS : CallS c X (rReprD X.K) (one reprP) := fun g h H xs us Q E r rh p => by
  obtain ⟨x, u, rfl, rfl, rx, p⟩ := one_run r p
  unfold reprP at p
  split at p
  · rename_i d e
    split at p
    · rename_i z
      obtain ⟨a1, a2⟩ := toD_run rh 12 rx e
      exact ⟨u, d, rfl, a1, z.1, z.2.1, by omega, by rw [sizeLine_eq]; exact Nat.le_trans (shown_len d z.1 z.2.1) z.2.2, p.go rh repS⟩
    · exact p.elim
  · exact p.elim

/-! ### isinstance -/
/-- a type: a built-in one, or one of the program's -/
inductive Tk where
  | ty (n : String) | cls (C : Nat)
deriving DecidableEq
def tkV (c : Ck) : Tk → Value
  | .ty n => .type n
  | .cls C => .ref (c C)
def tyAt : PV → VH → Option Tk
  | .non, _ => some (.ty "NoneType")
  | .bl _, _ => some (.ty "bool")
  | .int _, _ => some (.ty "int")
  | .str _, _ => some (.ty "str")
  | .tup _, _ => some (.ty "tuple")
  | .lst _, _ => some (.ty "list")
  | .ins C _, _ => some (.cls C)
  | .ref i, h => match h[i]? with
    | some (.lst _) => some (.ty "list")
    | some (.dic _ _) => some (.ty "dict")
    | some (.ins C _) => some (.cls C)
    | _ => none
  | _, _ => none
def clsOf : PV → Option Tk
  | .ty n => some (.ty n)
  | .cls C => some (.cls C)
  | _ => none
@[simp] theorem tyAt_int (i : Int) (h : VH) : tyAt (.int i) h = some (.ty "int") := (rfl)
def kinds : List String := ["NoneType", "bool", "int", "str", "tuple", "list", "dict"]
def bKit (a b : String) : Option Bool := if kinds.contains a && kinds.contains b then some (a == b || (a == "bool" && b == "int")) else none
theorem bKit_ok {a b : String} {r : Bool} (h : bKit a b = some r) : kitB a b = some r := by
  have all : (kinds.all fun a => kinds.all fun b => kitB a b == some (a == b || (a == "bool" && b == "int"))) = true := by decide +kernel
  unfold bKit at h
  split at h
  · rename_i z
    rw [Bool.and_eq_true, List.contains_iff_mem, List.contains_iff_mem] at z
    have := List.all_eq_true.mp (List.all_eq_true.mp all a z.1) b z.2
    rw [beq_iff_eq.mp this]; exact h
  · cases h
/-- a law's own table -/
abbrev Tab := List (Tk × Tk × Bool)
def Tab.at' (t : Tab) (a b : Tk) : Option Bool := (t.find? fun e => decide (e.1 = a) && decide (e.2.1 = b)).map fun e => e.2.2
def kit (t : Tab) (a b : Tk) : Option Bool := match a, b with
  | .ty a, .ty b => bKit a b
  | a, b => t.at' a b
structure TabOk (c : Ck) (K : PySem.W.Frag) (t : Tab) : Prop where
  kit : ∀ e ∈ t, PySem.W.kitOne K (tkV c e.1) (tkV c e.2.1) = some e.2.2
  ins : ∀ e ∈ t, ∀ C, e.1 = .cls C → C8.InsC K (c C)
theorem kit_ok {t : Tab} (T : TabOk c X.K t) {a b : Tk} {r : Bool} (h : kit t a b = some r) : PySem.W.kitOne X.K (tkV c a) (tkV c b) = some r ∧ ∀ C, a = .cls C → C8.InsC X.K (c C) := by
  have tab : ∀ {a b : Tk}, t.at' a b = some r → PySem.W.kitOne X.K (tkV c a) (tkV c b) = some r ∧ ∀ C, a = .cls C → C8.InsC X.K (c C) := fun {a b} h => by
    unfold Tab.at' at h
    obtain ⟨e, h1, h2⟩ := Option.map_eq_some_iff.mp h
    have m := List.mem_of_find?_eq_some h1
    have p := List.find?_some h1
    rw [Bool.and_eq_true, decide_eq_true_eq, decide_eq_true_eq] at p
    have k := T.kit e m
    rw [p.1, p.2, h2] at k
    exact ⟨k, fun C hC => T.ins e m C (p.1.trans hC)⟩
  cases a with
  | ty a =>
    cases b with
    | ty b => exact ⟨kit_ty (bKit_ok h), fun C z => by cases z⟩
    | cls C => exact tab h
  | cls C => exact tab h
def anyK (t : Tab) (a : Tk) : List PV → Option Bool
  | [] => some false
  | x :: xs => match clsOf x with
    | some b => match kit t a b with
      | some true => some true
      | some false => anyK t a xs
      | none => none
    | none => none
/-- the rest of the tuple must hold classes alone -/
def allCls : List PV → Bool
  | [] => true
  | x :: xs => (clsOf x).isSome && allCls xs
def isiP (t : Tab) : List PV → VH → Res PV
  | [x, .tup cs], h => match tyAt x h with
    | some a => if allCls cs = true then (match cs, anyK t a cs with
      | _ :: _, some b => .ok (.bl b) h
      | _, _ => .bad) else .bad
    | none => .bad
  | [x, y], h => match tyAt x h, clsOf y with
    | some a, some b => match kit t a b with
      | some r => .ok (.bl r) h
      | none => .bad
    | _, _ => .bad
  | _, _ => .bad
theorem isiP_ok {t : Tab} {x y : PV} {h : VH} {a b : Tk} {r : Bool} (e1 : tyAt x h = some a) (e2 : clsOf y = some b) (e3 : kit t a b = some r) : isiP t [x, y] h = .ok (.bl r) h := by
  cases y with
  | ty n => simp only [isiP, e1, e2, e3]
  | cls n => simp only [isiP, e1, e2, e3]
  | _ => cases e2
theorem isiP_tup {t : Tab} {x : PV} {cs : List PV} {h : VH} {a : Tk} {r : Bool} (e1 : tyAt x h = some a) (e2 : allCls cs = true) (e0 : cs ≠ []) (e3 : anyK t a cs = some r) : isiP t [x, .tup cs] h = .ok (.bl r) h := by
  cases cs with
  | nil => exact absurd rfl e0
  | cons y ys => simp only [isiP, e1, e2, e3, if_true]
theorem tyAt_run {t : Tab} (T : TabOk c X.K t) {g : Gh} {h : VH} {H : Hp} {x : PV} {u : V} {a : Tk} (rx : Rep (kx c X) g h.length x u) (rh : RelH (kx c X) g h H) (e : tyAt x h = some a) (ins : ∀ C, a = .cls C → C8.InsC X.K (c C)) : TyX X.K H u (tkV c a) := by
  cases x with
  | non => cases e; simp only [Rep] at rx; subst rx; exact .base .non
  | bl b => cases e; simp only [Rep] at rx; subst rx; exact .base (.bl _)
  | int b => cases e; simp only [Rep] at rx; subst rx; exact .base (.int _)
  | str b => cases e; simp only [Rep] at rx; subst rx; exact .base (.str _)
  | tup xs =>
    cases e
    obtain ⟨a, us, rfl, s, r⟩ := tup_run rx rh
    exact .base (.tup s)
  | lst xs =>
    cases e
    obtain ⟨a, us, rfl, s, r⟩ := trkOf_run rx rh (trkOf_lst xs h)
    exact .base (.lst s)
  | ins C fs =>
    cases e
    obtain ⟨a, dx, gs, rfl, s, r⟩ := insAt_run rx rh (insAt_ins C fs h)
    obtain ⟨i1, i2, i3, i4, i5⟩ := ins C rfl
    exact .base (.ins s i1 i2 i3 i4 i5)
  | ref i =>
    have e : (match h[i]? with
      | some (PO.lst _) => some (Tk.ty "list")
      | some (PO.dic _ _) => some (Tk.ty "dict")
      | some (PO.ins C _) => some (Tk.cls C)
      | _ => none) = some a := e
    simp only [Rep] at rx
    split at e
    · rename_i xs e0
      cases e
      obtain ⟨a, us, rfl, s, r⟩ := trkOf_run (by simp only [Rep]; exact rx) rh (trkOf_ref e0)
      exact .base (.lst s)
    · rename_i tt kvs e0
      cases e
      obtain ⟨o, ho, ro⟩ := rh.cell _ _ e0 (by intro z; cases z)
      rw [rx.2]
      cases tt with
      | false => obtain ⟨ws, rfl, rd⟩ := ro; exact .base (.dK ho)
      | true => obtain ⟨ws, rfl, rd⟩ := ro; exact .base (.dT ho)
    · rename_i C fs e0
      cases e
      obtain ⟨a, dx, gs, rfl, s, r⟩ := insAt_run (by simp only [Rep]; exact rx) rh (insAt_ref e0)
      obtain ⟨i1, i2, i3, i4, i5⟩ := ins C rfl
      exact .base (.ins s i1 i2 i3 i4 i5)
    · cases e
  | _ => cases e
theorem clsOf_run {g : Gh} {n : Nat} {y : PV} {u : V} {b : Tk} (ry : Rep (kx c X) g n y u) (e : clsOf y = some b) : ClsV u (tkV c b) := by
  cases y with
  | ty n => cases e; simp only [Rep] at ry; subst ry; exact .ty _
  | cls n => cases e; simp only [Rep] at ry; subst ry; exact .own _
  | _ => cases e
theorem allCls_run {g : Gh} {n : Nat} : ∀ {cs : List PV} {us : List V}, Reps (kx c X) g n cs us → allCls cs = true → ∃ ts : List Tk, cs.map clsOf = ts.map some ∧ Paired ClsV us (ts.map (tkV c))
  | [], _, r, _ => by simp only [Reps] at r; subst r; exact ⟨[], rfl, .nil⟩
  | x :: xs, _, r, h => by
    simp only [Reps] at r
    obtain ⟨u, us', rfl, a, b⟩ := r
    unfold allCls at h
    rw [Bool.and_eq_true] at h
    obtain ⟨k, hk⟩ := Option.isSome_iff_exists.mp h.1
    obtain ⟨ts, e, p⟩ := allCls_run b h.2
    exact ⟨k :: ts, by simp [hk, e], .cons (clsOf_run a hk) p⟩
theorem anyK_run {t : Tab} (T : TabOk c X.K t) {a : Tk} : ∀ {cs : List PV} {ts : List Tk} {r : Bool}, cs.map clsOf = ts.map some → anyK t a cs = some r → PySem.W.kitAny X.K (tkV c a) (ts.map (tkV c)) = some r
  | [], ts, r, e, h => by
    cases ts with
    | nil => exact h
    | cons k ts => simp at e
  | x :: xs, ts, r, e, h => by
    cases ts with
    | nil => simp at e
    | cons k ts =>
      simp only [List.map_cons, List.cons.injEq] at e
      unfold anyK at h
      simp only [e.1] at h
      split at h
      · rename_i hk
        exact kitAny_cons (kit_ok T hk).1 (fun z => by cases z) fun _ => by cases h; rfl
      · rename_i hk
        exact kitAny_cons (kit_ok T hk).1 (fun _ => anyK_run T e.2 h) fun z => by cases z
      · cases h
theorem anyK_ins {t : Tab} (T : TabOk c X.K t) {a : Tk} {x : PV} {xs : List PV} {r : Bool} (h : anyK t a (x :: xs) = some r) : ∀ C, a = .cls C → C8.InsC X.K (c C) := by
  unfold anyK at h
  split at h
  · split at h
    · exact (kit_ok T ‹_›).2
    · exact (kit_ok T ‹_›).2
    · cases h
  · cases h
def rIsiAll (K : PySem.W.Frag) : List V → Hp → VK → Prop := fun xs H Q => rIsi K xs H Q ∨ rIsiT K xs H Q
theorem call_isiAll : CallR X (.builtin "isinstance") (rIsiAll X.K) := call_isi.or call_isiT
theorem isiS {t : Tab} (T : TabOk c X.K t) : CallS c X (rIsiAll X.K) (isiP t) := fun g h H xs us Q E r rh p => by
  unfold isiP at p
  split at p
  · rename_i x cs
    obtain ⟨u, v, rfl, rx, ry⟩ := r.two
    split at p
    · rename_i a e1
      split at p
      · rename_i hc
        split at p
        · rename_i b e3
          obtain ⟨q, us, rfl, s, r1⟩ := tup_run ry rh
          obtain ⟨ts, em, pr⟩ := allCls_run r1 hc
          exact .inr ⟨u, q, us, _, _, _, rfl, s, pr, tyAt_run T rx rh e1 (anyK_ins T e3), anyK_run T em e3, p.go rh repB⟩
        · exact p.elim
      · exact p.elim
    · exact p.elim
  · rename_i x y hny
    obtain ⟨u, v, rfl, rx, ry⟩ := r.two
    split at p
    · rename_i a b e1 e2
      split at p
      · rename_i rr e3
        obtain ⟨k1, k2⟩ := kit_ok T e3
        exact .inl ⟨u, v, _, _, _, rfl, clsOf_run ry e2, tyAt_run T rx rh e1 k2, k1, p.go rh repB⟩
      · exact p.elim
    · exact p.elim
  · exact p.elim
end
end Pm
namespace Pm
open PySem PySem.Spec L2 PyProof.Rows

/-! ### a cell written -/
theorem RelH.setc {K : Kc} {g : Gh} {h : VH} {H : Hp} {i : Nat} {p o : PO} {u : HO} (r : RelH K g h H) (e : h[i]? = some p) (d : p ≠ .dead) (ro : RepO K g h.length o u) : RelH K g (h.set i o) (upd H (g.ρ i) u) := by
  have hi : i < h.length := (List.getElem?_eq_some_iff.mp e).1
  have old : ∀ {j q}, (h.set i o)[j]? = some q → (j = i ∧ q = o) ∨ (j ≠ i ∧ h[j]? = some q) := fun {j q} z => by
    by_cases hj : i = j
    · subst hj
      rw [List.getElem?_set_self hi] at z
      cases z
      exact .inl ⟨rfl, rfl⟩
    · rw [List.getElem?_set_ne hj] at z
      exact .inr ⟨fun q => hj q.symm, z⟩
  have was : ∀ {j q}, (h.set i o)[j]? = some q → q ≠ PO.dead → ∃ q', h[j]? = some q' ∧ q' ≠ PO.dead := fun {j q} z dq => by
    rcases old z with ⟨rfl, _⟩ | ⟨_, z⟩
    · exact ⟨p, e, d⟩
    · exact ⟨q, z, dq⟩
  refine ⟨fun b w eb => ?_, fun j q z dq => ?_, fun j q z dq => ?_, fun j k q q' z dq z' dq' er => ?_, fun b w eb => ?_, fun a2 dd e2 z => let ⟨gs, e3, e4⟩ := r.ex a2 dd e2 z; ⟨gs, e3, by rw [List.length_set]; exact e4⟩⟩
  · have nb : b ≠ g.ρ i := fun z => by rw [z, r.sep i p e d] at eb; cases eb
    rw [upd_ne nb]; exact r.same b w eb
  · rcases old z with ⟨rfl, rfl⟩ | ⟨nj, z⟩
    · exact ⟨u, upd_same, by rw [List.length_set]; exact ro⟩
    · obtain ⟨u', hu, ru⟩ := r.cell j q z dq
      have ne : g.ρ j ≠ g.ρ i := fun z' => nj (r.inj j i q p z dq e d z')
      exact ⟨u', by rw [upd_ne ne]; exact hu, by rw [List.length_set]; exact ru⟩
  · obtain ⟨q', z', dq'⟩ := was z dq
    exact r.sep j q' z' dq'
  · obtain ⟨a, za, da⟩ := was z dq
    obtain ⟨b, zb, db⟩ := was z' dq'
    exact r.inj j k a b za da zb db er
  · obtain ⟨h1, h2, h3⟩ := r.fr b w eb
    have nb : b ≠ g.ρ i := fun z => h3 i p e d z.symm
    refine ⟨by rw [upd_ne nb]; exact h1, h2, fun j q z dq => ?_⟩
    obtain ⟨q', z', dq'⟩ := was z dq
    exact h3 j q' z' dq'
/-- a list's cell -/
def celL (x : PV) (h : VH) : Option (Nat × List PV) := match x with
  | .ref i => match h[i]? with
    | some (.lst xs) => some (i, xs)
    | _ => none
  | _ => none
theorem celL_ref {i : Nat} {xs : List PV} {h : VH} (e : h[i]? = some (.lst xs)) : celL (.ref i) h = some (i, xs) := by simp [celL, e]
theorem celL_run {K : Kc} {g : Gh} {h : VH} {H : Hp} {x : PV} {u : V} {i : Nat} {xs : List PV} (rx : Rep K g h.length x u) (rh : RelH K g h H) (e : celL x h = some (i, xs)) :
    x = .ref i ∧ u = .ref (g.ρ i) ∧ h[i]? = some (.lst xs) ∧ ∃ us, H (g.ρ i) = some (.lst us) ∧ Reps K g h.length xs us := by
  cases x with
  | ref j =>
    simp only [Rep] at rx
    have e : (match h[j]? with
      | some (PO.lst xs) => some (j, xs)
      | _ => none) = some (i, xs) := e
    split at e
    · rename_i ys e1
      cases e
      obtain ⟨u', hu, ru⟩ := rh.cell i _ e1 (by intro z; cases z)
      obtain ⟨us, rfl, r⟩ := ru
      exact ⟨rfl, rx.2, e1, us, hu, r⟩
    · cases e
  | _ => cases e
section
variable {c : Ck} {X : Cx} {W : WX} {pos apos : Pos} {o e : Expr} {es : List Expr} {mo m : EM} {ms : AM} {name : Str}
/-- xs becomes ys, in place, and v comes out -/
def MtS (c : Ck) (X : Cx) (r : V → List V → Hp → VK → Prop) (f : PV → List PV → VH → Res PV) : Prop :=
  ∀ g h H x xs u us Q E, Rep (kx c X) g h.length x u → Reps (kx c X) g h.length xs us → RelH (kx c X) g h H → Post (kx c X) (Rep (kx c X)) g h.length Q E (f x xs h) → r u us H Q
/-- the receiver is a list, before and behind the arguments -/
def lstMt (x : PV) (ms : AM) (σ : LS) (h : VH) (f : PV → List PV → VH → Res PV) : Res PV := match lstOf x h with
  | some _ => (ms σ h).bind fun xs h1 => f x xs h1
  | none => .bad
def eLm (f : PV → List PV → VH → Res PV) (mo : EM) (ms : AM) : EM := fun σ h => (mo σ h).bind fun x h1 => lstMt x ms σ h1 f
theorem lstMt_lst {xs : List PV} {ms : AM} {σ : LS} {h : VH} {f : PV → List PV → VH → Res PV} : lstMt (.lst xs) ms σ h f = (ms σ h).bind fun ys h1 => f (.lst xs) ys h1 := rfl
theorem lstMt_ok {x : PV} {xs : List PV} {ms : AM} {σ : LS} {h : VH} {f : PV → List PV → VH → Res PV} (e : lstOf x h = some xs) : lstMt x ms σ h f = (ms σ h).bind fun ys h1 => f x ys h1 := by simp [lstMt, e]
theorem SE.lm {id : String} {r : V → List V → Hp → VK → Prop} {f : PV → List PV → VH → Res PV} (slot : Slot "list" name id) (hty : typeOf (.builtin id) = pure (.type "method_descriptor")) (hm : MtR X id r) (hs : MtS c X r f) (ho : SE c X W o mo) (ha : SA c X W (e :: es) ms)
    (hbase : attributeBase o name X.env (eval o X.env) = eval o X.env := by rfl)
    (hfew : ((backTo pos (starEach (e :: es) X.env)).all (fun x => !x.1) && (backToKw pos (keywordEach [] X.env)).all (fun x => x.1.isSome)
      && decide ((e :: es).length + ([] : List Keyword).length + (if ([] : List Keyword).isEmpty then 0 else 1) < 30)) = true := by rfl)
    (hline : (apos.endLine == pos.line) = true := by rfl) (hst : starEach (e :: es) X.env = (false, eval e X.env) :: starEach es X.env := by rfl) (hplain : (backTo pos (starEach es X.env)).any (·.1) = false := by rfl) :
    SE c X W (.Call (.Attribute o name apos) (e :: es) [] pos) (eLm f mo ms) := by
  obtain ⟨t, p, s⟩ := ho
  obtain ⟨_, ta, pa, sa⟩ := ha
  refine ⟨_, pe_bm PySem.F.plainAttrs_list slot hty hm p pa hbase hfew hline hst hplain, fun g σ h τ H Q rs rh q => ?_⟩
  refine s g σ h τ H _ rs rh ((Post.bind q).imp (fun u H1 ⟨g1, x, h1, m1, q1⟩ => ?_) fun _ _ _ z => z)
  unfold lstMt at q1
  split at q1
  · rename_i xs e0
    obtain ⟨a, us, rfl, sq, r1⟩ := lstOf_run m1.rep m1.rel e0
    refine ⟨.inl ⟨rfl, us, sq⟩, sa g1 σ h1 τ H1 _ (rs.mono m1.le m1.len) m1.rel ((Post.bind q1).imp (fun ws H2 ⟨g2, ys, h2, m2, q2⟩ => ?_) fun _ _ _ z => z)⟩
    exact hs g2 h2 H2 x ys (.ref a) ws Q _ (m1.rep.mono m2.le m2.len) m2.rep m2.rel q2
  · exact q1.elim
theorem SE.lm0 {id : String} {r : V → List V → Hp → VK → Prop} {f : PV → List PV → VH → Res PV} (slot : Slot "list" name id) (hty : typeOf (.builtin id) = pure (.type "method_descriptor")) (hm : MtR X id r) (hs : MtS c X r f) (ho : SE c X W o mo)
    (hbase : attributeBase o name X.env (eval o X.env) = eval o X.env := by rfl) (hline : (apos.endLine == pos.line) = true := by rfl) : SE c X W (.Call (.Attribute o name apos) [] [] pos) (eLm f mo aNil) := by
  obtain ⟨t, p, s⟩ := ho
  refine ⟨_, pe_bm0 PySem.F.plainAttrs_list slot hty hm p hbase hline, fun g σ h τ H Q rs rh q => ?_⟩
  refine s g σ h τ H _ rs rh ((Post.bind q).imp (fun u H1 ⟨g1, x, h1, m1, q1⟩ => ?_) fun _ _ _ z => z)
  unfold lstMt at q1
  split at q1
  · rename_i xs e0
    obtain ⟨a, us, rfl, sq, r1⟩ := lstOf_run m1.rep m1.rel e0
    exact ⟨.inl ⟨rfl, us, sq⟩, hs g1 h1 H1 x [] (.ref a) [] Q _ m1.rep Reps.nil m1.rel q1⟩
  · exact q1.elim
def appendP (x : PV) (ys : List PV) (h : VH) : Res PV := match celL x h, ys with
  | some (i, xs), [y] => if xs.length < 16777216 then .ok .non (h.set i (.lst (xs ++ [y]))) else .bad
  | _, _ => .bad
theorem appendP_ok {i : Nat} {xs : List PV} {y : PV} {h : VH} (e : h[i]? = some (.lst xs)) (z : xs.length < 16777216) : appendP (.ref i) [y] h = .ok .non (h.set i (.lst (xs ++ [y]))) := by
  simp only [appendP, celL_ref e, if_pos z]
theorem appendS : MtS c X rAppend appendP := fun g h H x ys u vs Q E rx ry rh p => by
  unfold appendP at p
  split at p
  · rename_i i xs y e0
    split at p
    · rename_i z
      obtain ⟨rfl, rfl, e1, us, hu, r⟩ := celL_run rx rh e0
      obtain ⟨w, rfl, rw'⟩ := ry.one
      refine ⟨_, us, w, rfl, rfl, hu, by rw [r.length, sizeLine_eq]; exact z, ?_⟩
      exact p g _ _ (Gh.le.refl _ _) (by simp) (rh.setc e1 (by intro z; cases z) ⟨us ++ [w], rfl, r.append (Reps.cons rw' Reps.nil)⟩) repN
    · exact p.elim
  · exact p.elim
def popP (x : PV) (ys : List PV) (h : VH) : Res PV := match celL x h, ys with
  | some (i, xs), [] => match xs[xs.length - 1]? with
    | some v => .ok v (h.set i (.lst xs.dropLast))
    | none => .bad
  | some (i, xs), [.int k] => if -(2 ^ 63) ≤ k ∧ k < 2 ^ 63 then (match seqIndex? k xs.length with
    | some j => match xs[j]? with
      | some v => .ok v (h.set i (.lst (xs.eraseIdx j)))
      | none => .bad
    | none => .bad) else .bad
  | _, _ => .bad
theorem popP_last {i : Nat} {xs : List PV} {v : PV} {h : VH} (e : h[i]? = some (.lst (xs ++ [v]))) : popP (.ref i) [] h = .ok v (h.set i (.lst xs)) := by
  simp only [popP, celL_ref e]
  simp
theorem popP_at {i j : Nat} {k : Int} {xs : List PV} {v : PV} {h : VH} (e : h[i]? = some (.lst xs)) (z : -(2 ^ 63) ≤ k ∧ k < 2 ^ 63) (e1 : seqIndex? k xs.length = some j) (e2 : xs[j]? = some v) : popP (.ref i) [.int k] h = .ok v (h.set i (.lst (xs.eraseIdx j))) := by
  simp only [popP, celL_ref e, if_pos z, e1, e2]
def rPopAll : V → List V → Hp → VK → Prop := fun x xs H Q => rPop x xs H Q ∨ rPopAt x xs H Q
theorem mt_popAll : MtR X "list.pop" rPopAll := MtR.or (r := rPop) mt_pop (r' := rPopAt) mt_popAt
theorem Reps.dropLast {K : Kc} {g : Gh} {n : Nat} {xs : List PV} {us : List V} (r : Reps K g n xs us) : Reps K g n xs.dropLast us.dropLast := by
  rw [List.dropLast_eq_take, List.dropLast_eq_take, r.length]
  exact r.take _
theorem Reps.eraseIdx {K : Kc} {g : Gh} {n : Nat} {xs : List PV} {us : List V} (r : Reps K g n xs us) (j : Nat) : Reps K g n (xs.eraseIdx j) (us.eraseIdx j) := by
  rw [List.eraseIdx_eq_take_drop_succ, List.eraseIdx_eq_take_drop_succ]
  exact (r.take _).append (r.drop _)
theorem popS : MtS c X rPopAll popP := fun g h H x ys u vs Q E rx ry rh p => by
  unfold popP at p
  split at p
  · rename_i i xs e0
    split at p
    · rename_i v e2
      obtain ⟨rfl, rfl, e1, us, hu, r⟩ := celL_run rx rh e0
      simp only [Reps] at ry
      obtain ⟨w, e3, rw'⟩ := r.get e2
      refine .inl ⟨_, us, w, rfl, ry, hu, by rw [r.length]; exact e3, ?_⟩
      exact p g _ _ (Gh.le.refl _ _) (by simp) (rh.setc e1 (by intro z; cases z) ⟨_, rfl, r.dropLast⟩) (by simpa using rw')
    · exact p.elim
  · rename_i i xs k e0
    split at p
    · rename_i z
      split at p
      · rename_i j e2
        split at p
        · rename_i v e3
          obtain ⟨rfl, rfl, e1, us, hu, r⟩ := celL_run rx rh e0
          obtain ⟨w, rfl, rw'⟩ := ry.one
          simp only [Rep] at rw'
          obtain ⟨w2, e4, rw2⟩ := r.get e3
          refine .inr ⟨_, us, k, j, w2, rfl, by rw [rw'], hu, z.1, z.2, by rw [r.length]; exact e2, e4, ?_⟩
          exact p g _ _ (Gh.le.refl _ _) (by simp) (rh.setc e1 (by intro z; cases z) ⟨_, rfl, r.eraseIdx j⟩) (by simpa using rw2)
        · exact p.elim
      · exact p.elim
    · exact p.elim
  · exact p.elim
def insertP (x : PV) (ys : List PV) (h : VH) : Res PV := match celL x h, ys with
  | some (i, xs), [.int k, y] => if xs.length < 16777216 ∧ 0 ≤ k ∧ k < 2 ^ 63 then .ok .non (h.set i (.lst (xs.take k.toNat ++ [y] ++ xs.drop k.toNat))) else .bad
  | _, _ => .bad
theorem insertP_ok {i : Nat} {k : Int} {xs : List PV} {y : PV} {h : VH} (e : h[i]? = some (.lst xs)) (z : xs.length < 16777216 ∧ 0 ≤ k ∧ k < 2 ^ 63) : insertP (.ref i) [.int k, y] h = .ok .non (h.set i (.lst (xs.take k.toNat ++ [y] ++ xs.drop k.toNat))) := by
  simp only [insertP, celL_ref e, if_pos z]
theorem insertS : MtS c X (fun x vs H Q => ∃ (l : Addr) (xs : List V) (i : Int) (y : V), x = .ref l ∧ vs = [.int i, y] ∧ H l = some (.lst xs) ∧ xs.length < sizeLine ∧ 0 ≤ i ∧ i < 2 ^ 63 ∧ Q .non (upd H l (.lst (xs.take i.toNat ++ [y] ++ xs.drop i.toNat)))) insertP := fun g h H x ys u vs Q E rx ry rh p => by
  unfold insertP at p
  split at p
  · rename_i i xs k y e0
    split at p
    · rename_i z
      obtain ⟨rfl, rfl, e1, us, hu, r⟩ := celL_run rx rh e0
      obtain ⟨w, w2, rfl, rw', rw2⟩ := ry.two
      simp only [Rep] at rw'
      refine ⟨_, us, k, w2, rfl, by rw [rw'], hu, by rw [r.length, sizeLine_eq]; exact z.1, z.2.1, z.2.2, ?_⟩
      exact p g _ _ (Gh.le.refl _ _) (by simp) (rh.setc e1 (by intro z; cases z) ⟨_, rfl, ((r.take _).append (Reps.cons rw2 Reps.nil)).append (r.drop _)⟩) repN
    · exact p.elim
  · exact p.elim
def extendP (x : PV) (ys : List PV) (h : VH) : Res PV := match celL x h, ys with
  | some (i, xs), [y] => match trkOf y h with
    | some zs => if xs.length + zs.length ≤ 16777216 then .ok .non (h.set i (.lst (xs ++ zs))) else .bad
    | none => .bad
  | _, _ => .bad
theorem extendP_ok {i : Nat} {xs zs : List PV} {y : PV} {h : VH} (e : h[i]? = some (.lst xs)) (e2 : trkOf y h = some zs) (z : xs.length + zs.length ≤ 16777216) : extendP (.ref i) [y] h = .ok .non (h.set i (.lst (xs ++ zs))) := by
  simp only [extendP, celL_ref e, e2, if_pos z]
theorem extendS : MtS c X rExtend extendP := fun g h H x ys u vs Q E rx ry rh p => by
  unfold extendP at p
  split at p
  · rename_i i xs y e0
    split at p
    · rename_i zs e2
      split at p
      · rename_i z
        obtain ⟨rfl, rfl, e1, us, hu, r⟩ := celL_run rx rh e0
        obtain ⟨w, rfl, rw'⟩ := ry.one
        obtain ⟨b, ws, rfl, hb, rb⟩ := trkOf_run rw' rh e2
        refine ⟨_, b, us, ws, rfl, rfl, hu, hb, by rw [r.length, rb.length, sizeLine_eq]; exact z, ?_⟩
        exact p g _ _ (Gh.le.refl _ _) (by simp) (rh.setc e1 (by intro z; cases z) ⟨_, rfl, r.append rb⟩) repN
      · exact p.elim
    · exact p.elim
  · exact p.elim
/-- xs.index(y), by values -/
def indexP (x : PV) (ys : List PV) (h : VH) : Res PV := match dat h x, ys with
  | some (.list ds), [y] => match dat h y with
    | some d => if PyData.canLayAll0 ds = true ∧ d.canLay0 = true then (match ds.findIdx? fun z => PyData.eqv z d with
      | some j => .ok (.int (j : Nat)) h
      | none => .bad) else .bad
    | none => .bad
  | _, _ => .bad
theorem indexP_ok {x y : PV} {h : VH} {ds : List PyData} {d : PyData} {j : Nat} (e1 : dat h x = some (.list ds)) (e2 : dat h y = some d) (z : PyData.canLayAll0 ds = true ∧ d.canLay0 = true) (e3 : (ds.findIdx? fun z => PyData.eqv z d) = some j) : indexP x [y] h = .ok (.int (j : Nat)) h := by
  simp only [indexP, e1, e2, if_pos z, e3]
theorem indexS : MtS c X (rIndexD X.K) indexP := fun g h H x ys u vs Q E rx ry rh p => by
  unfold indexP at p
  split at p
  · rename_i ds y e0
    split at p
    · rename_i d e1
      split at p
      · rename_i z
        split at p
        · rename_i j e2
          obtain ⟨w, rfl, rw'⟩ := ry.one
          obtain ⟨a1, a2⟩ := toD_run rh 12 rx e0
          obtain ⟨b1, b2⟩ := toD_run rh 12 rw' e1
          obtain ⟨f1, f2, f3⟩ := List.findIdx?_eq_some_iff_getElem.mp e2
          cases a1 with
          | lst sq da =>
            refine ⟨_, w, d, ds, j, ds[j], rfl, rfl, .lst sq da, b1, shaped_of (by simpa [PyData.canLay0] using z.1) a2, shaped_of z.2 b2, List.getElem?_eq_getElem f1, f2, fun m z' hm hz => ?_, p.go rh repI⟩
            obtain ⟨hm1, rfl⟩ := List.getElem?_eq_some_iff.mp hz
            have := f3 m hm
            simpa using this
        · exact p.elim
      · exact p.elim
    · exact p.elim
  · exact p.elim

/-! ### a[i] = v -/
def setP (x y v : PV) (h : VH) : Res Unit := match celL x h, y with
  | some (i, xs), .int k => match ixN xs.length k with
    | some j => .ok () (h.set i (.lst (xs.set j v)))
    | none => .bad
  | _, _ => .bad
theorem setP_ok {i j : Nat} {k : Int} {xs : List PV} {v : PV} {h : VH} (e : h[i]? = some (.lst xs)) (e1 : ixN xs.length k = some j) : setP (.ref i) (.int k) v h = .ok () (h.set i (.lst (xs.set j v))) := by
  simp only [setP, celL_ref e, e1]
theorem ixN_nat {n j : Nat} (h : j < n) : ixN n (j : Int) = some j := by
  unfold ixN
  rw [if_pos (by omega), if_pos (by omega)]; simp
theorem ixN_pos {n : Nat} {k : Int} (h0 : 0 ≤ k) (h : k < n) : ixN n k = some k.toNat := by
  unfold ixN
  rw [if_pos h0, if_pos h]
theorem set_run {g : Gh} {h : VH} {H : Hp} {x y v : PV} {u w z : V} {Q : Unit → Hp → Prop} {E : XK} (rx : Rep (kx c X) g h.length x u) (ry : Rep (kx c X) g h.length y w) (rv : Rep (kx c X) g h.length v z) (rh : RelH (kx c X) g h H)
    (p : Post (kx c X) (fun _ _ _ _ => True) g h.length Q E (setP x y v h)) : rSetL u w z H (Q ()) := by
  unfold setP at p
  split at p
  · rename_i i xs k e0
    split at p
    · rename_i j e1
      obtain ⟨rfl, rfl, e2, us, hu, r⟩ := celL_run rx rh e0
      simp only [Rep] at ry
      refine ⟨_, us, k, j, rfl, ry, hu, by rw [r.length]; exact e1, ?_⟩
      exact p g () _ (Gh.le.refl _ _) (by simp) (rh.setc e2 (by intro z; cases z) ⟨_, rfl, r.set rv j⟩) trivial
    · exact p.elim
  · exact p.elim
def gSubM (mo mi : EM) : GM := fun v σ h => ((mo σ h).nx).bind fun x h1 => ((mi σ h1).nx).bind fun y h2 => ((setP x y v h2).nx).bind fun _ h3 => .ok σ h3
theorem SG.sub {i : Expr} {mi : EM} (ho : SE c X W o mo) (hi : SE c X W i mi)
    (ha : ∀ v, assign (.Subscript o i pos) X.env v = (do
      let ov ← holding [v] (eval o X.env)
      let iv ← holding [v, ov] (eval i X.env)
      standAt pos
      holding [v, ov, iv] (setItem ov iv v)
      release [v, ov, iv] []) := by intro _; rfl) : SG c X (.Subscript o i pos) (gSubM mo mi) := by
  obtain ⟨t, p, s⟩ := ho
  obtain ⟨ti, pi, si⟩ := hi
  refine ⟨_, pg_sub p pi set_list ha, fun g σ h τ H v u N rs rh rv q => ?_⟩
  refine s g σ h τ H _ rs rh ((Post.nx (E' := at_ W τ) (Post.bind (R := Rep (kx c X)) q)).imp (fun a H1 ⟨g1, x, h1, m1, q1⟩ => ?_) fun _ _ _ z => z)
  refine si g1 σ h1 τ H1 _ (rs.mono m1.le m1.len) m1.rel ((Post.nx (E' := at_ W τ) (Post.bind (R := Rep (kx c X)) q1)).imp (fun b H2 ⟨g2, y, h2, m2, q2⟩ => ?_) fun _ _ _ z => z)
  have le2 := m1.le.trans m2.le m1.len
  have ln2 := Nat.le_trans m1.len m2.len
  refine set_run (Q := fun _ H3 => N τ H3) (E := noX) (m1.rep.mono m2.le m2.len) m2.rep (rv.mono le2 ln2) m2.rel ((Post.nx (E' := noX) (Post.bind (R := fun _ _ _ _ => True) q2)).imp (fun _ H3 ⟨g3, _, h3, m3, q3⟩ => ?_) fun _ _ _ z => z)
  exact q3 g3 τ H3 (Gh.le.refl _ _) (Nat.le_refl _) m3.rel (rs.mono (le2.trans m3.le ln2) (Nat.le_trans ln2 m3.len))

/-! ### op= -/
def sAug (i : Nat) (m : EM) (f : PV → PV → VH → Res PV) : SM := fun σ h => match σ[i]? with
  | some (some x) => (m σ h).then σ fun y h1 => (f x y h1).then σ fun z h2 => .nx (σ.set i (some z)) h2
  | _ => .bad
theorem S1.aug {i : Nat} {x : Str} {op : Operator} {r : R2} {f : PV → PV → VH → Res PV} {pos' : Pos} (hN : X.N.Nodup) (hi : X.N[i]? = some x) (hx : Loc X.env.scope x) (ho : PIp X op r) (hs : OpS c X r f) (he : SE c X W e m)
    (hf : X.fn x = true ∨ X.env.scope.names.lookup x = some .local := by first | exact .inl rfl | exact .inr rfl | assumption) : S1 c X W (.AugAssign (.Name x pos') op e pos) (sAug i m f) := by
  obtain ⟨t, p, s⟩ := he
  refine ⟨_, ps_aug hN hi hx p ho hf, fun g σ h τ H D rs rh q => ?_⟩
  dsimp only [sAug] at q
  split at q
  · rename_i v e0
    obtain ⟨u, e1, ru⟩ := rs.get i v e0
    refine ⟨u, e1, s g σ h τ H _ rs rh ((PostS.then rs q).imp (fun w H1 ⟨g1, y, h1, m1, q1⟩ => ?_) fun _ _ _ z => z)⟩
    have rs1 := rs.mono m1.le m1.len
    refine hs g1 h1 H1 v y u w _ _ (ru.mono m1.le m1.len) m1.rep m1.rel ((PostS.then rs1 q1).imp (fun z H2 ⟨g2, z', h2, m2, q2⟩ => ?_) fun _ _ _ z => z)
    exact q2 g2 _ H2 (Gh.le.refl _ _) (Nat.le_refl _) m2.rel ((rs1.mono m2.le m2.len).set i m2.rep)
  · exact q.elim

/-! ### raise -/
/-- what an own __init__ of one, two fields does to an exception that is being made -/
def spX1 (C : Addr) (f : Str) : Sp := fun vs H Q E => ∃ a w, vs = [.ref a, w] ∧ H a = some (exo a C none) ∧ ∀ d, H d = none → d ≠ a → Q .non (upd (upd H d (exd d [(f, w)])) a (exo a C (some d)))
def spX2 (C : Addr) (f f' : Str) : Sp := fun vs H Q E => ∃ a w w', vs = [.ref a, w, w'] ∧ H a = some (exo a C none) ∧ ∀ d, H d = none → d ≠ a → Q .non (upd (upd (upd H d (exd d [(f, w)])) a (exo a C (some d))) d (exd d [(f', w'), (f, w)]))
def sRaise (C : Nat) (fs : List Str) (ms : AM) : SM := fun σ h => (ms σ h).then σ fun xs h1 => .xc ⟨C, (fs.zip xs).reverse⟩ σ h1
section
variable {C : Nat} {k : Nat} {fI : Addr} {fd : FuncData} {ps : List Str} {x : Str} {p pos' : Pos}
theorem RelH.xd {K : Kc} {g : Gh} {h : VH} {H : Hp} {a d : Addr} {fs : List (Str × V)} {H2 : Hp} (rh : RelH K g h H) (na : H a = none) (nd : H d = none) (e : ∀ b, b ≠ a → b ≠ d → H2 b = H b) :
    g.le h.length { g with Hf := upd g.Hf d (.xd fs) } ∧ RelH K { g with Hf := upd g.Hf d (.xd fs) } h (upd (del H2 a) d (.xd fs)) := by
  have ee : upd (del H2 a) d (.xd fs) = upd H d (.xd fs) := by
    funext b
    by_cases hb : b = d
    · subst hb; rw [upd_same, upd_same]
    · rw [upd_ne hb, upd_ne hb]
      by_cases ha : b = a
      · subst ha; rw [del_same, na]
      · rw [del_ne ha, e b ha hb]
  rw [ee]
  exact RelH.frz rh nd
theorem len2 {α : Type} : ∀ {xs : List α}, xs.length = 2 → ∃ a b, xs = [a, b]
  | [a, b], _ => ⟨a, b, rfl⟩
  | [], h => by simp at h
  | [_], h => by simp at h
  | _ :: _ :: _ :: _, h => by simp at h
theorem S1.raise1 {f : Str} (T : OexC X.K (c C)) (iC : PySem.W.findIn X.K (.ref (c C)) "__init__" = some (some (.ref fI))) (tI : PySem.W.typeIn X.K (.ref fI) = some (.type "function")) (F1 : FnOk X.prog X.w X.K X.mg X.base (L2.CX X.prog X.w) k fI fd ps (spX1 (c C) f))
    (hr : Room (k + 1) X.A) (hb : Binds X.K fd ps []) (hx : Passes (L2.CX X.prog X.w) X (fun _ _ _ => False)) (hg : Gl X x) (hm : X.mg x = some (.ref (c C))) (ha : SA c X W [e] ms) (hc : X.calm = true) (tk : Takes X W)
    (hdb : (x == ("__debug__" : Str)) = false := by decide) (he : starEach [e] X.env = (false, eval e X.env) :: starEach [] X.env := by rfl) (hpl : (backTo pos (starEach [] X.env)).any (·.1) = false := by rfl) :
    S1 c X W (.Raise (some (.Call (.Name x p) [e] [] pos)) none pos') (sRaise C [f] ms) := by
  obtain ⟨la, t, pa, s⟩ := ha
  refine ⟨_, ps_raise hc tk (pmk_oex T iC tI F1 hr hb .nil hx hg hm pa hdb he hpl), fun g σ h τ H D rs rh q => s g σ h τ H _ rs rh ?_⟩
  have q := PostS.then (R := Reps (kx c X)) rs q
  have ln := fun xs h' => la σ h xs h'
  generalize ms σ h = res at q ln
  cases res with
  | exc e' h' => exact q
  | bad => exact q
  | ok xs h' =>
    intro g0 us H1 l0 hn0 rh0 ru0
    obtain ⟨g1, ys, h1, m1, q1⟩ := q g0 us H1 l0 hn0 rh0 ru0
    have lu := m1.rep.length
    have l1 : us.length = 1 := ru0.length.trans (ln xs h' rfl)
    obtain ⟨u, rfl⟩ : ∃ u, us = [u] := List.length_eq_one_iff.mp l1
    obtain ⟨y, rfl⟩ : ∃ y, ys = [y] := List.length_eq_one_iff.mp (lu.symm.trans l1)
    obtain ⟨_, e1, ry⟩ := m1.rep.one
    cases e1
    refine ⟨by simp, fun a na => ⟨a, u, rfl, upd_same, fun d nd hda => ⟨rfl, d, [(f, u)], upd_same, ?_, ?_, ?_⟩⟩⟩
    · rw [upd_ne hda, upd_same]
    · rw [upd_ne hda] at nd; exact nd
    · rw [upd_ne hda] at nd
      obtain ⟨le, rh2⟩ := RelH.xd (a := a) (d := d) (fs := [(f, u)]) (H2 := upd (upd (upd H1 a (exo a (c C) none)) d (exd d [(f, u)])) a (exo a (c C) (some d))) m1.rel na nd fun b ba bd => by rw [upd_ne ba, upd_ne bd, upd_ne ba]
      refine q1 _ _ _ τ _ le (Nat.le_refl _) rh2 ((rs.mono m1.le m1.len).mono le (Nat.le_refl _)) ⟨rfl, d, _, rfl, upd_same, ?_⟩
      exact RepF.cons (ry.mono le (Nat.le_refl _)) RepF.nil
theorem S1.raise2 {f f' : Str} {e2 : Expr} (T : OexC X.K (c C)) (iC : PySem.W.findIn X.K (.ref (c C)) "__init__" = some (some (.ref fI))) (tI : PySem.W.typeIn X.K (.ref fI) = some (.type "function")) (F1 : FnOk X.prog X.w X.K X.mg X.base (L2.CX X.prog X.w) k fI fd ps (spX2 (c C) f f'))
    (hr : Room (k + 1) X.A) (hb : Binds X.K fd ps []) (hx : Passes (L2.CX X.prog X.w) X (fun _ _ _ => False)) (hg : Gl X x) (hm : X.mg x = some (.ref (c C))) (ha : SA c X W [e, e2] ms) (hc : X.calm = true) (tk : Takes X W)
    (hdb : (x == ("__debug__" : Str)) = false := by decide) (he : starEach [e, e2] X.env = (false, eval e X.env) :: starEach [e2] X.env := by rfl) (hpl : (backTo pos (starEach [e2] X.env)).any (·.1) = false := by rfl) :
    S1 c X W (.Raise (some (.Call (.Name x p) [e, e2] [] pos)) none pos') (sRaise C [f, f'] ms) := by
  obtain ⟨la, t, pa, s⟩ := ha
  refine ⟨_, ps_raise hc tk (pmk_oex T iC tI F1 hr hb .nil hx hg hm pa hdb he hpl), fun g σ h τ H D rs rh q => s g σ h τ H _ rs rh ?_⟩
  have q := PostS.then (R := Reps (kx c X)) rs q
  have ln := fun xs h' => la σ h xs h'
  generalize ms σ h = res at q ln
  cases res with
  | exc e' h' => exact q
  | bad => exact q
  | ok xs h' =>
    intro g0 us H1 l0 hn0 rh0 ru0
    obtain ⟨g1, ys, h1, m1, q1⟩ := q g0 us H1 l0 hn0 rh0 ru0
    have lu := m1.rep.length
    have l1 : us.length = 2 := ru0.length.trans (ln xs h' rfl)
    obtain ⟨u, u', rfl⟩ : ∃ u u', us = [u, u'] := len2 l1
    obtain ⟨y, y', rfl⟩ : ∃ y y', ys = [y, y'] := len2 (lu.symm.trans l1)
    obtain ⟨_, _, e1, ry, ry'⟩ := m1.rep.two
    cases e1
    refine ⟨by simp, fun a na => ⟨a, u, u', rfl, upd_same, fun d nd hda => ⟨rfl, d, [(f', u'), (f, u)], ?_, upd_same, ?_, ?_⟩⟩⟩
    · rw [upd_ne hda.symm, upd_same]
    · rw [upd_ne hda] at nd; exact nd
    · rw [upd_ne hda] at nd
      obtain ⟨le, rh2⟩ := RelH.xd (a := a) (d := d) (fs := [(f', u'), (f, u)]) (H2 := upd (upd (upd (upd H1 a (exo a (c C) none)) d (exd d [(f, u)])) a (exo a (c C) (some d))) d (exd d [(f', u'), (f, u)])) m1.rel na nd fun b ba bd => by rw [upd_ne bd, upd_ne ba, upd_ne bd, upd_ne ba]
      refine q1 _ _ _ τ _ le (Nat.le_refl _) rh2 ((rs.mono m1.le m1.len).mono le (Nat.le_refl _)) ⟨rfl, d, _, rfl, upd_same, ?_⟩
      exact RepF.cons (ry'.mono le (Nat.le_refl _)) (RepF.cons (ry.mono le (Nat.le_refl _)) RepF.nil)
end
end
end Pm
namespace Pm
open PySem PySem.Spec L2 PyProof.Rows

/-! ### the __init__ of an own exception: one, two fields -/
theorem initX1 {K : PySem.W.Frag} {C : Addr} {f : Str} {N : List Str} {vs : List V} {H : Hp} {Q : VK} {E : XK} (T : OexC K C) (no : PySem.W.findIn K (.ref C) f = some none) (hN : N.length = 2) (h : spX1 C f vs H Q E) :
    tOst K f (tVar 0) (tVar 1) { nx := fun _ H' => Q .non H', rt := Q } (L2.start N vs) H := by
  obtain ⟨a, w, rfl, ea, q⟩ := h
  have e : L2.start N [V.ref a, w] = [some (.ref a), some w] := by unfold L2.start; rw [hN]; rfl
  rw [e]
  exact ⟨w, rfl, .ref a, rfl, a, C, rfl, T, no, .inl ⟨ea, fun d nd ne => q d nd ne⟩⟩
theorem initX2 {K : PySem.W.Frag} {C : Addr} {f f' : Str} {N : List Str} {vs : List V} {H : Hp} {Q : VK} {E : XK} (T : OexC K C) (no : PySem.W.findIn K (.ref C) f = some none) (no' : PySem.W.findIn K (.ref C) f' = some none) (hN : N.length = 3) (h : spX2 C f f' vs H Q E) :
    tSeq (tOst K f (tVar 0) (tVar 1)) (tOst K f' (tVar 0) (tVar 2)) { nx := fun _ H' => Q .non H', rt := Q } (L2.start N vs) H := by
  obtain ⟨a, w, w', rfl, ea, q⟩ := h
  have e : L2.start N [V.ref a, w, w'] = [some (.ref a), some w, some w'] := by unfold L2.start; rw [hN]; rfl
  rw [e]
  refine ⟨w, rfl, .ref a, rfl, a, C, rfl, T, no, .inl ⟨ea, fun d nd ne => ?_⟩⟩
  refine ⟨w', rfl, .ref a, rfl, a, C, rfl, T, no', .inr ⟨d, [(f, w)], upd_same, ?_, by simp, q d nd ne⟩⟩
  rw [upd_ne ne, upd_same]

/-! ### the law's end -/
/-- what stands of an abstract heap in which nothing but the script may be tracked -/
theorem law_go {P : Program} {w : World} {K : PySem.W.Frag} {mg mb : Str → Option Value} {k : Nat} {fa a : Addr} {fd : FuncData} {x : Str} {sp : Sp} {s₁ : Shared} {vs : List Value} {G : Hp}
    (KX : K.In s₁.heap) (hns : s₁.heap.Ns mainGlobals mg) (hb : s₁.heap.Ns builtinsNs mb) (hbb : ∀ x : Str, x ≠ "__name__" → mb x = bootBuiltins x) (hlim : s₁.heap.NoLimit) (hg : s₁.gens = #[])
    (ha : s₁.heap.get? a = some { cls := .type "list", data := .seq vs.toArray }) (hr : Room k callerA)
    (F : ∀ base : Heap, K.In base → base.Ns mainGlobals mg → FnG P w K mg base k fa fd [x] sp) (hbind : ∀ (s : Shared) (u : Value), BindsTo s fd ⟨[u], []⟩ [(x, u)])
    (hO : Only G) (hok : HOk P w G s₁.heap) (hA : ∀ b, G b ≠ none → b = a) (hK : G a ≠ none → K.lookup a = none)
    (hsp : sp [.ref a] G (fun v _ => v = .bl true) fun _ _ _ => False) :
    codeAny (model P w) callerA (.call (.ref fa) ⟨[.ref a], []⟩) (fun r s' => r = .ok (.ret (.bool true)) ∧ OldK s₁.heap s'.heap ∧ s'.os = s₁.os ∧ AllBare s'.gens) s₁ := by
  have seen : ∀ {b : Addr} {o : Obj}, s₁.heap.get? b = some o → G b = none → (hidT s₁.heap G).get? b = some o := fun e n => hidT_get e n
  have isA : ∀ {b : Addr} {u : HO}, G b = some u → b = a := fun {b u} z => hA b (by rw [z]; exact fun y => by cases y)
  have dictOut : ∀ {b : Addr} {o : Obj} {es : Array DictEntry} {ep : Nat}, s₁.heap.get? b = some o → o.data = .dict es ep → G b = none := fun {b o es ep} e d => by
    cases z : G b with
    | none => rfl
    | some u =>
      obtain rfl := isA z
      rw [ha] at e; cases e
      exact nomatch (show Data.seq vs.toArray _ = Data.dict es ep from d)
  have ns' : ∀ {b : Addr} {m : Str → Option Value}, s₁.heap.Ns b m → (hidT s₁.heap G).Ns b m := fun {b m} ⟨o, es, ep, e, d, r⟩ => ⟨o, es, ep, seen e (dictOut e d), d, r⟩
  have inK : K.In (hidT s₁.heap G) := fun b o e => seen (KX b o e) (by
    cases z : G b with
    | none => rfl
    | some u =>
      obtain rfl := isA z
      rw [hK (by rw [z]; exact fun y => by cases y)] at e; cases e)
  have md : Mod K mg (hidT s₁.heap G) := ⟨inK, ns' hns, ⟨mb, ns' hb, hbb⟩, let ⟨mc, h1, h2⟩ := hlim; ⟨mc, ns' h1, h2⟩⟩
  have env0 : Env0 P w K mg (hidT s₁.heap G) callerA [] s₁ G := ⟨rfl, md, fun b o e => of_hidT e, Nat.le_of_eq (hidT_size _ _), trivial, fun b hb => absurd (show b ∈ ([] : List Addr) from hb) (by simp), hok, .of_eq hg⟩
  refine codeAny_mono ((F _ inK (ns' hns)).run callerA [] s₁ G ⟨[.ref a], []⟩ [.ref a] [.ref a] _ _ hr rfl env0 (hbind s₁ (.ref a)) (.cons rfl .nil) hsp) fun r s' out => ?_
  cases r with
  | error e =>
    obtain ⟨_, _, _, _, _, _, _, _, _, _, _, _, z⟩ := out
    exact z.elim
  | ok fl =>
    cases fl with
    | next => exact out.elim
    | brk => exact out.elim
    | cont => exact out.elim
    | ret u =>
      obtain ⟨v, H', os, bare, un, hok', rv, rfl⟩ := out
      obtain rfl : u = Value.bool true := rv
      refine ⟨rfl, OldK.of_keep fun b o e => ?_, os, bare⟩
      cases z : G b with
      | none => exact un.keep b o e z (by intro y; exact absurd (show b ∈ ([] : List Addr) from y) (by simp)) (by simp)
      | some u =>
        rcases hO b with y | ⟨ob, xs, y⟩
        · rw [z] at y; cases y
        · obtain ⟨e1, _⟩ := hok b _ y
          obtain ⟨e2, _⟩ := hok' b _ (un.frzs b ob _ y)
          rw [e] at e1; cases e1
          exact e2
/-- the plain law: the law's function says True of every script -/
def PlainLaw (m : List PV → VH → Res PV) : Prop := ∀ ns : List Int, ns.length ≤ 63 → (∀ z ∈ ns, Builtin.Int.intBits z ≤ 1048576) → ∃ h', m [.scr (ns.map PV.int)] [] = .ok (.bl true) h'
theorem plain_sp {K : Kc} {H : Hp} {a : Addr} {ns : List Int} {m : List PV → VH → Res PV} (hx : K.ex = none) (L : PlainLaw m) (hl : ns.length ≤ 63) (hb : ∀ z ∈ ns, Builtin.Int.intBits z ≤ 1048576) (hS : SqL K.K H a (ns.map V.int)) :
    spOf K 1 m [.ref a] H (fun v _ => v = .bl true) fun _ _ _ => False := by
  obtain ⟨h', e⟩ := L ns hl hb
  let g : Gh := ⟨H, fun _ => 0, fun _ => none⟩
  have rh : RelH K g [] H := ⟨Same.refl _, (fun i o z => by simp at z), (fun i o z => by simp at z), (fun i j o p z => by simp at z), (fun a o z => by cases (show (none : Option HO) = some o from z)), fun a dd e z => by rw [hx] at z; cases z⟩
  refine ⟨g, [], [.scr (ns.map PV.int)], rfl, Reps.cons ?_ Reps.nil, rh, ?_⟩
  · simp only [Rep]
    exact ⟨a, ns.map V.int, rfl, hS, Reps.ints ns⟩
  · rw [e]
    intro g' u H' l hn rh' r
    simpa only [Rep] using r
theorem law_end {l : PySem.W.OpenLaw} {n k : Nat} {q : Program} {loose : List Str} {XP : (Str → Option Value) → Heap → Prop} {YP : World → Heap → Prop} {d : DefRec} {K : Params → PySem.W.Frag} {x : Str} {m : List PV → VH → Res PV}
    (hn : l.most = some n) (hn2 : n ≤ 63) (hdf : d.params.defaults = []) (hr : Room k callerA)
    (hY : ∀ (w : World) (h : Heap), YP w h → (K w.params).In h)
    (F : ∀ (w : World) (mg : Str → Option Value) (fa : Addr) (h : Heap), (K w.params).In h → h.Ns mainGlobals mg → mg d.name = some (.ref fa) →
      ∃ (c : Ck) (fd : FuncData), c.ex = none ∧ (∀ (s : Shared) (u : Value), BindsTo s fd ⟨[u], []⟩ [(x, u)]) ∧
        ∀ base : Heap, (K w.params).In base → base.Ns mainGlobals mg → FnS c l.prog w (K w.params) mg base k fa fd [x] m)
    (L : PlainLaw m) : PySem.W.WalkO q loose XP YP l.row.toRowW d [] (fun f vs => PySem.call f vs) := by
  refine Att.attach_callB hn hdf fun w s₀ s₁ mg mb fa o pm cd doc a vs ns G Y ho hd hcd hmg hobj hints hlen hbits hg => ?_
  have KX := hY w _ Y
  obtain ⟨c, fd, hx, hb, hF⟩ := F w mg fa _ KX G.T.g hmg
  have lenV := hints.length
  have l63 : ns.length ≤ 63 := Nat.le_trans hlen hn2
  have rv := vals_ints hints
  cases hk : (K w.params).lookup a with
  | some ob =>
    have e := KX a ob hk
    rw [hobj] at e
    cases e
    have hS : SqL (K w.params) (fun _ => none) a (ns.map V.int) := .inr ⟨_, vs.toArray, _, hk, rfl, rfl, rfl, by rw [List.size_toArray, lenV, sizeLine_eq]; omega, by simpa using rv⟩
    exact law_go KX G.T.g G.T.b G.T.builtins G.T.nolimit hg hobj hr (fun base b1 b2 => (hF base b1 b2).ok) hb (fun _ => .inl rfl) (fun b u z => by cases (show (none : Option HO) = some u from z)) (fun b z => absurd rfl z) (fun z => absurd rfl z) (plain_sp hx L l63 hbits hS)
  | none =>
    let H : Hp := fun b => if b = a then some (.frz { cls := .type "list", data := .seq vs.toArray } (.lst (ns.map V.int))) else none
    have hS : SqL (K w.params) H a (ns.map V.int) := .inl (.inr ⟨{ cls := .type "list", data := .seq vs.toArray }, if_pos rfl⟩)
    refine law_go (G := H) KX G.T.g G.T.b G.T.builtins G.T.nolimit hg hobj hr (fun base b1 b2 => (hF base b1 b2).ok) hb (fun b => ?_) (fun b u z => ?_) (fun b z => ?_) (fun _ => hk) (plain_sp hx L l63 hbits hS)
    · by_cases hba : b = a
      · exact .inr ⟨_, _, if_pos hba⟩
      · exact .inl (if_neg hba)
    · by_cases hba : b = a
      · subst hba
        cases (if_pos rfl).symm.trans z
        exact ⟨hobj, by rw [List.length_map, sizeLine_eq]; omega, vs, _, rv, hobj⟩
      · cases (if_neg hba).symm.trans z
    · by_cases hba : b = a
      · exact hba
      · exact absurd (if_neg hba) z
end Pm
namespace Pm
open PySem PySem.Spec L2 PyProof.Rows

/-! ### a cell that is written no more -/
def frzP : PV → VH → Res PV
  | .ref i, h => match h[i]? with
    | some (.lst xs) => .ok (.lst xs) (h.set i .dead)
    | some (.ins C fs) => .ok (.ins C fs) (h.set i .dead)
    | _ => .ok (.ref i) h
  | v, h => .ok v h
theorem frzP_lst {i : Nat} {xs : List PV} {h : VH} (e : h[i]? = some (.lst xs)) : frzP (.ref i) h = .ok (.lst xs) (h.set i .dead) := by simp [frzP, e]
theorem frzP_ins {i C : Nat} {fs : List (Str × PV)} {h : VH} (e : h[i]? = some (.ins C fs)) : frzP (.ref i) h = .ok (.ins C fs) (h.set i .dead) := by simp [frzP, e]
@[simp] theorem frzP_last (xs : List PV) (h : VH) : frzP (.ref h.length) (h ++ [.lst xs]) = .ok (.lst xs) (h ++ [.dead]) := by
  rw [frzP_lst (xs := xs) (by simp)]; simp
@[simp] theorem frzP_lastI (C : Nat) (fs : List (Str × PV)) (h : VH) : frzP (.ref h.length) (h ++ [.ins C fs]) = .ok (.ins C fs) (h ++ [.dead]) := by
  rw [frzP_ins (C := C) (fs := fs) (by simp)]; simp
section
variable {c : Ck} {X : Cx} {W : WX} {pos : Pos} {e : Expr} {m : EM}
theorem RelH.die {K : Kc} {g : Gh} {h : VH} {H : Hp} {i : Nat} {p : PO} {u : HO} (r : RelH K g h H) (e : h[i]? = some p) (d : p ≠ .dead) (hu : H (g.ρ i) = some u) :
    g.le h.length { g with Hf := upd g.Hf (g.ρ i) u } ∧ RelH K { g with Hf := upd g.Hf (g.ρ i) u } (h.set i .dead) H := by
  have nf : g.Hf (g.ρ i) = none := r.sep i p e d
  have le : g.le h.length { g with Hf := upd g.Hf (g.ρ i) u } := ⟨fun b w z => (upd_ne (ne_of_none z nf)).trans z, fun _ _ => rfl, rfl⟩
  have hi : i < h.length := (List.getElem?_eq_some_iff.mp e).1
  have old : ∀ {j q}, (h.set i PO.dead)[j]? = some q → q ≠ PO.dead → j ≠ i ∧ h[j]? = some q := fun {j q} z dq => by
    by_cases hj : i = j
    · subst hj
      rw [List.getElem?_set_self hi] at z
      cases z; exact absurd rfl dq
    · rw [List.getElem?_set_ne hj] at z
      exact ⟨fun q => hj q.symm, z⟩
  refine ⟨le, fun b w z => ?_, fun j q z dq => ?_, fun j q z dq => ?_, fun j k q q' z dq z' dq' er => ?_, fun b w z => ?_, fun a2 dd e2 z => let ⟨gs, e3, e4⟩ := r.ex a2 dd e2 z; ⟨gs, le.same _ _ e3, by rw [List.length_set]; exact e4.mono le (Nat.le_refl _)⟩⟩
  · have z : upd g.Hf (g.ρ i) u b = some w := z
    by_cases hb : b = g.ρ i
    · subst hb; rw [upd_same] at z; cases z; exact hu
    · rw [upd_ne hb] at z; exact r.same b w z
  · obtain ⟨nj, z⟩ := old z dq
    obtain ⟨u', hu', ru⟩ := r.cell j q z dq
    exact ⟨u', hu', by rw [List.length_set]; exact ru.mono le (Nat.le_refl _)⟩
  · obtain ⟨nj, z⟩ := old z dq
    show upd g.Hf (g.ρ i) u (g.ρ j) = none
    rw [upd_ne fun y => nj (r.inj j i q p z dq e d y)]
    exact r.sep j q z dq
  · obtain ⟨_, z⟩ := old z dq
    obtain ⟨_, z'⟩ := old z' dq'
    exact r.inj j k q q' z dq z' dq' er
  · obtain ⟨h1, h2, h3⟩ := r.fr b w z
    have nb : b ≠ g.ρ i := fun y => h3 i p e d y.symm
    refine ⟨h1, by show upd g.Hf (g.ρ i) u b = none; rw [upd_ne nb]; exact h2, fun j q z dq => ?_⟩
    obtain ⟨_, z⟩ := old z dq
    exact h3 j q z dq
theorem frz_run {K : Kc} {g : Gh} {h : VH} {H : Hp} {x : PV} {u : V} {Q : VK} {E : XK} (rx : Rep K g h.length x u) (rh : RelH K g h H) (p : Post K (Rep K) g h.length Q E (frzP x h)) : Q u H := by
  unfold frzP at p
  split at p
  · rename_i i
    simp only [Rep] at rx
    split at p
    · rename_i xs e
      obtain ⟨o, ho, us, rfl, r⟩ := rh.cell i _ e (by intro z; cases z)
      obtain ⟨le, rh2⟩ := rh.die e (by intro z; cases z) ho
      refine p _ u H le (by simp) rh2 ?_
      simp only [Rep]
      exact ⟨g.ρ i, us, rx.2, upd_same, by rw [List.length_set]; exact r.mono le (Nat.le_refl _)⟩
    · rename_i C fs e
      obtain ⟨o, ho, dx, gs, rfl, r⟩ := rh.cell i _ e (by intro z; cases z)
      obtain ⟨le, rh2⟩ := rh.die e (by intro z; cases z) ho
      refine p _ u H le (by simp) rh2 ?_
      simp only [Rep]
      exact ⟨g.ρ i, dx, gs, rx.2, upd_same, by rw [List.length_set]; exact r.mono le (Nat.le_refl _)⟩
    · exact p.go rh (by simp only [Rep]; exact rx)
  · exact p.go rh rx
def eFrz (m : EM) : EM := fun σ h => (m σ h).bind frzP
theorem SE.frz (he : SE c X W e m) : SE c X W e (eFrz m) := by
  obtain ⟨t, p, s⟩ := he
  refine ⟨t, p, fun g σ h τ H Q rs rh q => ?_⟩
  exact s g σ h τ H _ rs rh ((Post.bind q).imp (fun u H1 ⟨g1, x, h1, m1, q1⟩ => frz_run m1.rep m1.rel q1) fun _ _ _ z => z)
/-- what was made on the way is let go -/
noncomputable def eGc (m : EM) : EM := fun σ h => (m σ h).bind fun v h1 => gc h v h1
theorem SE.gc (he : SE c X W e m) : SE c X W e (eGc m) := by
  obtain ⟨t, p, s⟩ := he
  refine ⟨t, p, fun g σ h τ H Q rs rh q => ?_⟩
  refine s g σ h τ H Q rs rh ?_
  dsimp only [eGc] at q
  generalize m σ h = res at q ⊢
  cases res with
  | ok v h' => exact fun g' u H' l hn rh' r => Post.gc (P := True) rh q g' u H' l hn rh' r
  | exc e' h' => exact q
  | bad => exact q
noncomputable def eFz (m : EM) : EM := eGc (eFrz m)
theorem SE.fz (he : SE c X W e m) : SE c X W e (eFz m) := SE.gc (SE.frz he)
/-! ### += of ints -/
abbrev iaddP : PV → PV → VH → Res PV := int2' fun i j => .int (i + j)
theorem iaddS : OpS c X (rI0 fun i j => .int (i + j)) iaddP := OpS.i2' fun _ _ _ _ _ => repI
theorem iop_addI : PIp X .Add (rI0 fun i j => .int (i + j)) := iop_add
abbrev isubP : PV → PV → VH → Res PV := int2' fun i j => .int (i - j)

/-- a number of the module -/
theorem SE.globI {x : Str} {i : Int} (hg : Gl X x) (hm : ∃ t, X.mg x = some (.int i t)) (hd : (x == ("__debug__" : Str)) = false := by decide) : SE c X W (.Name x pos) (eC (.int i)) := by
  obtain ⟨t, e⟩ := hm
  exact SE.glob (v := .int i) hg e ⟨t, rfl⟩ (fun _ _ => repI) hd
/-! ### a def's facts -/
structure Fd (K : PySem.W.Frag) (mg : Str → Option Value) (x qual : Str) (st : Stmt) (ps : List Str) (f : Addr) (fd : FuncData) : Prop where
  F : Fun K x qual st f fd
  b : Binds K fd ps []
  m : mg x = some (.ref f)
theorem Fd.mk' {K : PySem.W.Frag} {h : Heap} {mg : Str → Option Value} {x qual : Str} {st : Stmt} {ps : List Str} {f : Addr} {oc : Value} {od an : Option Addr} {osl : Array (Option Value)} {kV doc pm cdv ct : Value} (X : K.In h) (G : h.Ns mainGlobals mg) (a : PySem.W.nsIn K mainGlobals x = some (some (.ref f)))
    (l : K.lookup f = some ⟨oc, od, .func (PySem.W.fnOf x qual (defArgs st) (defBody st) (defScope st) .none kV doc pm an cdv ct), osl⟩)
    (k1 : PySem.W.codeIn K cdv qual = true) (k2 : PySem.W.keepIn K (.ref f) = true)
    (hb : ∀ (kV doc pm : Value) (an : Option Addr) (cdv ct : Value) (us : List Value), us.length = ps.length → bindArgs (PySem.W.fnOf x qual (defArgs st) (defBody st) (defScope st) .none kV doc pm an cdv ct) ⟨us, []⟩ = pure (ps.zip us)) :
    Fd K mg x qual st ps f (PySem.W.fnOf x qual (defArgs st) (defBody st) (defScope st) .none kV doc pm an cdv ct) := by
  have F := fun_mk (st := st) l k1 k2
  exact ⟨F, F.binds hb, PySem.W.mg_of X G a⟩
/-- an own exception class with its __init__ -/
structure Xc (K : PySem.W.Frag) (mg : Str → Option Value) (x qual : Str) (st : Stmt) (ps : List Str) (C f : Addr) (fd : FuncData) : Prop where
  F : Fun K "__init__" qual st f fd
  b : Binds K fd ps []
  m : mg x = some (.ref C)
  T : OexC K C
  i : PySem.W.findIn K (.ref C) "__init__" = some (some (.ref f))
  t : PySem.W.typeIn K (.ref f) = some (.type "function")
/-- the pieces of class C's text -/
theorem oex_mk {K : PySem.W.Frag} {C : Addr} {nm q : Str} {N : Addr} {bs : List Value} {sn : List Str} {sub : List Value} {ab : Bool} {col : Option Bool} {dd : Option Addr} {m0 m1 m2 m3 m5 : Option Value} {bm : List Value}
    (l : K.lookup C = some (excClassObj nm q C N bs bm true sn sub ab col dd m0 m1 m2 m3 m5 "ValueError.__new__")) (hb : PySem.HandSPX.refsVE bm = true)
    (sa : PySem.W.findIn K (.ref C) "__setattr__" = some (some (.builtin "object.__setattr__"))) (eC : PySem.W.subIn K (.ref C) (.type "BaseException") = some true) (tC : PySem.W.typeIn K (.ref C) = some (.type "type")) (kC : PySem.W.keepIn K (.ref C) = true) : OexC K C :=
  ⟨⟨nm, q, N, bs, bm, sn, sub, ab, col, dd, m0, m1, m2, m3, m5, l, hb⟩, sa, eC, tC, kC⟩
end
end Pm
namespace Pm
open PySem PySem.Spec L2 PyProof.Rows

/-! ### plain steps -/
section
variable {σ : LS} {h : VH} {f f' : PV → PV → VH → Res PV} {g : PV → VH → Res PV} {a b c : EM} {ta tb : TM} {ms : AM} {k : List PV → VH → Res PV} {v : PV} {s t : SM}
@[simp] theorem eVar_def (i : Nat) : eVar i σ h = (match σ[i]? with
  | some (some v) => .ok v h
  | _ => .bad) := (rfl)
@[simp] theorem eC_def : eC v σ h = .ok v h := (rfl)
@[simp] theorem eBin_def : eBin f a b σ h = (a σ h).bind fun x h1 => (b σ h1).bind fun y h2 => f x y h2 := (rfl)
@[simp] theorem eUn_def : eUn g a σ h = (a σ h).bind fun x h1 => g x h1 := (rfl)
@[simp] theorem aNil_def : aNil σ h = .ok [] h := (rfl)
@[simp] theorem aCons_def : aCons a ms σ h = (a σ h).bind fun x h1 => (ms σ h1).bind fun xs h2 => .ok (x :: xs) h2 := (rfl)
@[simp] theorem eCall_def : eCall k ms σ h = (ms σ h).bind fun xs h1 => k xs h1 := (rfl)
@[simp] theorem eAndM_def : eAndM a b σ h = (a σ h).bind fun x h1 => (asB x h1).bind fun c h2 => if c = true then b σ h2 else .ok (.bl false) h2 := (rfl)
@[simp] theorem eOrM_def : eOrM a b σ h = (a σ h).bind fun x h1 => (asB x h1).bind fun c h2 => if c = true then .ok (.bl true) h2 else b σ h2 := (rfl)
@[simp] theorem eNotM_def : eNotM a σ h = (a σ h).bind fun x h1 => (asB x h1).bind fun c h2 => .ok (.bl (!c)) h2 := (rfl)
@[simp] theorem eIfM_def : eIfM ta a b σ h = (ta σ h).bind fun k h1 => if k = true then a σ h1 else b σ h1 := (rfl)
@[simp] theorem eChain_def : eChain f f' a b c σ h = (a σ h).bind fun x h1 => (b σ h1).bind fun y h2 => (f x y h2).bind fun z h3 => (asB z h3).bind fun k h4 => if k = true then (c σ h4).bind fun w h5 => f' y w h5 else .ok (.bl false) h4 := (rfl)
@[simp] theorem eTup_def : eTup ms σ h = (ms σ h).bind fun xs h1 => .ok (.tup xs) h1 := (rfl)
@[simp] theorem eLst_def (cl : Bool) : eLst cl ms σ h = (ms σ h).bind fun xs h1 => mkL cl xs h1 := (rfl)
@[simp] theorem eFrz_def : eFrz a σ h = (a σ h).bind frzP := (rfl)
@[simp] theorem eGc_def : eGc a σ h = (a σ h).bind fun v h1 => gc h v h1 := (rfl)
@[simp] theorem eFz_def : eFz a σ h = ((a σ h).bind frzP).bind fun v h1 => gc h v h1 := (rfl)
@[simp] theorem eSl_def (cl : Bool) (lo hi : LS → VH → Res (Option Int)) : eSl cl a lo hi σ h = (a σ h).bind fun x h1 => (lo σ h1).bind fun l h2 => (hi σ h2).bind fun u h3 => slP cl x l u h3 := (rfl)
@[simp] theorem oNone_def : oNone σ h = .ok none h := (rfl)
@[simp] theorem oSome_def : oSome a σ h = (a σ h).bind asI := (rfl)
@[simp] theorem asB_bl (b : Bool) (h : VH) : asB (.bl b) h = .ok b h := (rfl)
@[simp] theorem tVal_def : tVal a σ h = (a σ h).bind asB := (rfl)
@[simp] theorem tAndM_def : tAndM ta tb σ h = (ta σ h).bind fun c h1 => if c = true then tb σ h1 else .ok false h1 := (rfl)
@[simp] theorem tOrM_def : tOrM ta tb σ h = (ta σ h).bind fun c h1 => if c = true then .ok true h1 else tb σ h1 := (rfl)
@[simp] theorem tNotM_def : tNotM ta σ h = (ta σ h).bind fun c h1 => .ok (!c) h1 := (rfl)
@[simp] theorem tYesM_def : tYesM σ h = .ok true h := (rfl)
@[simp] theorem sNil_def : sNil σ h = .nx σ h := (rfl)
@[simp] theorem sCons_def : sCons s t σ h = (s σ h).bind t := (rfl)
@[simp] theorem sDrop_def : sDrop a σ h = (a σ h).then σ fun _ h1 => .nx σ h1 := (rfl)
@[simp] theorem sRet_def : sRet a σ h = (a σ h).then σ fun v h1 => .rt v h1 := (rfl)
@[simp] theorem sRetN_def : sRetN σ h = .rt .non h := (rfl)
@[simp] theorem sBrk_def : sBrk σ h = .bk σ h := (rfl)
@[simp] theorem sCnt_def : sCnt σ h = .ct σ h := (rfl)
@[simp] theorem sIf_def : sIf ta s t σ h = (ta σ h).then σ fun k h1 => if k = true then s σ h1 else t σ h1 := (rfl)
@[simp] theorem sSet_def (i : Nat) : sSet i a σ h = (a σ h).then σ fun v h1 => .nx (σ.set i (some v)) h1 := (rfl)
@[simp] theorem sAsg_def (gm : GM) : sAsg a gm σ h = (a σ h).then σ fun v h1 => (gm v σ h1).sr := (rfl)
@[simp] theorem gSlot_def (i : Nat) : gSlot i v σ h = .ok (σ.set i (some v)) h := (rfl)
@[simp] theorem gSubM_def : gSubM a b v σ h = ((a σ h).nx).bind fun x h1 => ((b σ h1).nx).bind fun y h2 => ((setP x y v h2).nx).bind fun _ h3 => .ok σ h3 := (rfl)
@[simp] theorem sAug_def (i : Nat) : sAug i a f σ h = (match σ[i]? with
  | some (some x) => (a σ h).then σ fun y h1 => (f x y h1).then σ fun z h2 => .nx (σ.set i (some z)) h2
  | _ => .bad) := (rfl)
@[simp] theorem sRaise_def (C : Nat) (fs : List Str) : sRaise C fs ms σ h = (ms σ h).then σ fun xs h1 => .xc ⟨C, (fs.zip xs).reverse⟩ σ h1 := (rfl)
@[simp] theorem iSeq_def : iSeq a σ h = (a σ h).bind srcSeq := (rfl)
@[simp] theorem iRng_def : iRng ms σ h = (ms σ h).bind srcRng := (rfl)
@[simp] theorem iEnm_def : iEnm ms σ h = (ms σ h).bind srcEnum := (rfl)
@[simp] theorem iRvs_def : iRvs a σ h = (a σ h).bind srcRev := (rfl)
@[simp] theorem sFor_def (src : LS → VH → Res Src) (gm : GM) : sFor src gm s σ h = (src σ h).then σ fun sr h1 => forL sr.ck gm s sr.xs σ h1 := (rfl)
@[simp] theorem eLm_def (k : PV → List PV → VH → Res PV) : eLm k a ms σ h = (a σ h).bind fun x h1 => lstMt x ms σ h1 k := (rfl)
@[simp] theorem eLc_def (cl : Bool) (src : LS → VH → Res Src) (ws : List Nat) (gm : GM) (mt : TM) : eLc cl src ws gm mt a σ h = (src σ h).bind fun s h1 => (compL s.ck ws gm mt a σ s.xs [] h1).bind fun acc h2 => mkL cl acc h2 := (rfl)
theorem ls_g0 (a : Option PV) (l : LS) : (a :: l)[0]? = some a := rfl
theorem ls_gs (a : Option PV) (l : LS) (i : Nat) : (a :: l)[i + 1]? = l[i]? := by simp
theorem ls_s0 (a b : Option PV) (l : LS) : (a :: l).set 0 b = b :: l := (rfl)
theorem ls_ss (a b : Option PV) (l : LS) (i : Nat) : (a :: l).set (i + 1) b = a :: l.set i b := (rfl)
theorem fnRun_go (n : Nat) (m : SM) (args : List PV) (h : VH) {σ : LS} (e : startL n args = σ) : fnRun n m args h = fin h (m σ h) := by rw [← e]; rfl
end

/-! ### comprehensions -/
section
variable {ck : List (Nat × List PV)} {ws : List Nat} {gm : GM} {mt : TM} {me : EM} {σ : LS}
theorem compL_inv (I : Nat → List PV → VH → Prop) {xs : List PV} (step : ∀ i x acc h, xs[i]? = some x → I i acc h → ckOk ck h ∧ ∃ σ2 h2 b h3, gm x (wipeL σ ws) h = .ok σ2 h2 ∧ mt σ2 h2 = .ok b h3 ∧
      (if b = true then ∃ y h4, me σ2 h3 = .ok y h4 ∧ acc.length < 16777216 ∧ I (i + 1) (acc ++ [y]) h4 else I (i + 1) acc h3)) (hd : ∀ acc h, I xs.length acc h → ckOk ck h) :
    ∀ (ys : List PV) (i : Nat) (acc : List PV) (h : VH), xs.drop i = ys → i ≤ xs.length → I i acc h → ∃ acc' h', compL ck ws gm mt me σ ys acc h = .ok acc' h' ∧ I xs.length acc' h'
  | [], i, acc, h, e, hi, q => by
    have : i = xs.length := by have := congrArg List.length e; simp at this; omega
    subst this
    unfold compL
    rw [if_pos (hd _ _ q)]
    exact ⟨acc, h, rfl, q⟩
  | y :: ys, i, acc, h, e, hi, q => by
    have hl : i < xs.length := by have := congrArg List.length e; simp at this; omega
    have e2 := e
    rw [List.drop_eq_getElem_cons hl] at e2
    injection e2 with e3 e4
    obtain ⟨c1, σ2, h2, b, h3, r1, r2, r3⟩ := step i y acc h (by rw [List.getElem?_eq_getElem hl, e3]) q
    unfold compL
    rw [if_pos c1, r1, Res.nx_ok, Res.bind_ok, r2, Res.nx_ok, Res.bind_ok]
    cases b with
    | true =>
      rw [if_pos rfl] at r3
      obtain ⟨z, h4, m1, m2, m3⟩ := r3
      rw [if_pos rfl, m1, Res.nx_ok, Res.bind_ok, if_pos m2]
      exact compL_inv I step hd ys (i + 1) _ h4 e4 hl m3
    | false =>
      rw [if_neg Bool.false_ne_true] at r3
      rw [if_neg Bool.false_ne_true]
      exact compL_inv I step hd ys (i + 1) acc h3 e4 hl r3
theorem compL_filt {p : PV → Bool} {f : PV → PV} {h : VH} (hck : ckOk ck h) : ∀ (xs acc : List PV), (∀ x ∈ xs, ∃ σ2, gm x (wipeL σ ws) h = .ok σ2 h ∧ mt σ2 h = .ok (p x) h ∧ (p x = true → me σ2 h = .ok (f x) h)) → acc.length + xs.length ≤ 16777216 →
    compL ck ws gm mt me σ xs acc h = .ok (acc ++ (xs.filter p).map f) h
  | [], acc, _, _ => by unfold compL; rw [if_pos hck]; simp
  | x :: xs, acc, hx, hl => by
    obtain ⟨σ2, e1, e2, e3⟩ := hx x List.mem_cons_self
    have hr := fun y hy => hx y (List.mem_cons_of_mem _ hy)
    rw [List.length_cons] at hl
    unfold compL
    rw [if_pos hck, e1, Res.nx_ok, Res.bind_ok, e2, Res.nx_ok, Res.bind_ok]
    cases hp : p x with
    | true =>
      rw [if_pos rfl, e3 hp, Res.nx_ok, Res.bind_ok, if_pos (by omega), compL_filt hck xs _ hr (by simp; omega), List.filter_cons_of_pos hp]
      simp
    | false =>
      rw [if_neg Bool.false_ne_true, compL_filt hck xs _ hr (by omega), List.filter_cons_of_neg (by rw [hp]; simp)]
theorem compL_map {f : PV → PV} {h : VH} (hck : ckOk ck h) (xs : List PV) (hx : ∀ x ∈ xs, ∃ σ2, gm x (wipeL σ ws) h = .ok σ2 h ∧ mt σ2 h = .ok true h ∧ me σ2 h = .ok (f x) h) (hl : xs.length ≤ 16777216) :
    compL ck ws gm mt me σ xs [] h = .ok (xs.map f) h := by
  rw [compL_filt (p := fun _ => true) (f := f) hck xs [] (fun x hm => by obtain ⟨s, a, b, c⟩ := hx x hm; exact ⟨s, a, b, fun _ => c⟩) (by simpa using hl)]
  rw [List.filter_eq_self.mpr fun _ _ => rfl]; rfl
/-- over numbers, to numbers -/
theorem compL_ints {f : Int → Int} {ns : List Int} {h : VH} (hck : ckOk ck h) (hx : ∀ n ∈ ns, ∃ σ2, gm (.int n) (wipeL σ ws) h = .ok σ2 h ∧ mt σ2 h = .ok true h ∧ me σ2 h = .ok (.int (f n)) h) (hl : ns.length ≤ 16777216) :
    compL ck ws gm mt me σ (ns.map PV.int) [] h = .ok ((ns.map f).map PV.int) h := by
  rw [compL_map (f := fun x => match x with | .int n => .int (f n) | x => x) hck _ (fun x hm => ?_) (by simpa using hl)]
  · rw [List.map_map, List.map_map]; rfl
  · obtain ⟨n, hn, rfl⟩ := List.mem_map.mp hm
    exact hx n hn
theorem compL_bls {f : Int → Bool} {ns : List Int} {h : VH} (hck : ckOk ck h) (hx : ∀ n ∈ ns, ∃ σ2, gm (.int n) (wipeL σ ws) h = .ok σ2 h ∧ mt σ2 h = .ok true h ∧ me σ2 h = .ok (.bl (f n)) h) (hl : ns.length ≤ 16777216) :
    compL ck ws gm mt me σ (ns.map PV.int) [] h = .ok ((ns.map f).map PV.bl) h := by
  rw [compL_map (f := fun x => match x with | .int n => .bl (f n) | x => x) hck _ (fun x hm => ?_) (by simpa using hl)]
  · rw [List.map_map, List.map_map]; rfl
  · obtain ⟨n, hn, rfl⟩ := List.mem_map.mp hm
    exact hx n hn
end

/-! ### for, while -/
/-- a turn's outcome: on, or out -/
def Turn' (I : LS → VH → Prop) (R : SR → Prop) : SR → Prop
  | .nx σ h => I σ h
  | .ct σ h => I σ h
  | .bk σ h => R (.nx σ h)
  | .rt v h => R (.rt v h)
  | .xc e σ h => R (.xc e σ h)
  | .bad => False
section
variable {I : LS → VH → Prop} {R : SR → Prop}
@[simp] theorem Turn'_nx (σ : LS) (h : VH) : Turn' I R (.nx σ h) ↔ I σ h := Iff.rfl
@[simp] theorem Turn'_ct (σ : LS) (h : VH) : Turn' I R (.ct σ h) ↔ I σ h := Iff.rfl
@[simp] theorem Turn'_bk (σ : LS) (h : VH) : Turn' I R (.bk σ h) ↔ R (.nx σ h) := Iff.rfl
@[simp] theorem Turn'_rt (v : PV) (h : VH) : Turn' I R (.rt v h) ↔ R (.rt v h) := Iff.rfl
@[simp] theorem Turn'_xc (e : PX) (σ : LS) (h : VH) : Turn' I R (.xc e σ h) ↔ R (.xc e σ h) := Iff.rfl
end
theorem forL_inv {ck : List (Nat × List PV)} {gm : GM} {body : SM} {R : SR → Prop} (I : Nat → LS → VH → Prop) {xs : List PV}
    (step : ∀ i x σ h, xs[i]? = some x → I i σ h → ckOk ck h ∧ ∃ σ1 h1, gm x σ h = .ok σ1 h1 ∧ Turn' (I (i + 1)) R (body σ1 h1)) (hd : ∀ σ h, I xs.length σ h → ckOk ck h ∧ R (.nx σ h)) :
    ∀ (ys : List PV) (i : Nat) (σ : LS) (h : VH), xs.drop i = ys → i ≤ xs.length → I i σ h → R (forL ck gm body ys σ h)
  | [], i, σ, h, e, hi, q => by
    have : i = xs.length := by have := congrArg List.length e; simp at this; omega
    subst this
    obtain ⟨c1, r⟩ := hd σ h q
    unfold forL
    rw [if_pos c1]
    exact r
  | y :: ys, i, σ, h, e, hi, q => by
    have hl : i < xs.length := by have := congrArg List.length e; simp at this; omega
    have e2 := e
    rw [List.drop_eq_getElem_cons hl] at e2
    injection e2 with e3 e4
    obtain ⟨c1, σ1, h1, r1, r2⟩ := step i y σ h (by rw [List.getElem?_eq_getElem hl, e3]) q
    unfold forL
    rw [if_pos c1, r1, Res.sr_ok, SR.bind_nx]
    have ih := fun σ' h' => forL_inv I step hd ys (i + 1) σ' h' e4 hl
    cases hb : body σ1 h1 with
    | nx σ' h' => rw [hb] at r2; exact ih σ' h' r2
    | ct σ' h' => rw [hb] at r2; exact ih σ' h' r2
    | bk σ' h' => rw [hb] at r2; exact r2
    | rt v h' => rw [hb] at r2; exact r2
    | xc e σ' h' => rw [hb] at r2; exact r2
    | bad => rw [hb] at r2; exact r2.elim
theorem for_go {ck : List (Nat × List PV)} {gm : GM} {body : SM} {R : SR → Prop} {xs : List PV} {σ : LS} {h : VH} (I : Nat → LS → VH → Prop) (h0 : I 0 σ h)
    (step : ∀ i x σ h, xs[i]? = some x → I i σ h → ckOk ck h ∧ ∃ σ1 h1, gm x σ h = .ok σ1 h1 ∧ Turn' (I (i + 1)) R (body σ1 h1)) (hd : ∀ σ h, I xs.length σ h → ckOk ck h ∧ R (.nx σ h)) : R (forL ck gm body xs σ h) :=
  forL_inv I step hd xs 0 σ h (by simp) (Nat.zero_le _) h0
theorem comp_go {ck : List (Nat × List PV)} {ws : List Nat} {gm : GM} {mt : TM} {me : EM} {σ : LS} {xs : List PV} {h : VH} (I : Nat → List PV → VH → Prop) (h0 : I 0 [] h) (step : ∀ i x acc h, xs[i]? = some x → I i acc h → ckOk ck h ∧ ∃ σ2 h2 b h3, gm x (wipeL σ ws) h = .ok σ2 h2 ∧ mt σ2 h2 = .ok b h3 ∧
      (if b = true then ∃ y h4, me σ2 h3 = .ok y h4 ∧ acc.length < 16777216 ∧ I (i + 1) (acc ++ [y]) h4 else I (i + 1) acc h3)) (hd : ∀ acc h, I xs.length acc h → ckOk ck h) :
    ∃ acc' h', compL ck ws gm mt me σ xs [] h = .ok acc' h' ∧ I xs.length acc' h' := compL_inv I step hd xs 0 [] h (by simp) (Nat.zero_le _) h0
/-- a while: the measure falls -/
theorem while_go {t : TM} {body : SM} {R : SR → Prop} (I : LS → VH → Prop) (μ : LS → VH → Nat)
    (step : ∀ σ h, I σ h → ∃ b h1, t σ h = .ok b h1 ∧ (if b = true then Turn' (fun σ' h' => I σ' h' ∧ μ σ' h' < μ σ h) R (body σ h1) else R (.nx σ h1))) :
    ∀ (n : Nat) (σ : LS) (h : VH), I σ h → μ σ h < n → R (whileL t body n σ h)
  | 0, _, _, _, hn => absurd hn (Nat.not_lt_zero _)
  | n + 1, σ, h, q, hn => by
    obtain ⟨b, h1, e1, r⟩ := step σ h q
    unfold whileL
    rw [e1, Res.then_ok]
    cases b with
    | false => rw [if_neg Bool.false_ne_true] at r ⊢; exact r
    | true =>
      rw [if_pos rfl] at r ⊢
      have ih := fun σ' h' (z : I σ' h' ∧ μ σ' h' < μ σ h) => while_go I μ step n σ' h' z.1 (by omega)
      cases hb : body σ h1 with
      | nx σ' h' => rw [hb] at r; exact ih σ' h' r
      | ct σ' h' => rw [hb] at r; exact ih σ' h' r
      | bk σ' h' => rw [hb] at r; exact r
      | rt v h' => rw [hb] at r; exact r
      | xc e σ' h' => rw [hb] at r; exact r
      | bad => rw [hb] at r; exact r.elim

/-! ### conditional operators, ready for simp -/
@[simp] theorem modP_pos {i j : Int} {h : VH} (z : 0 < j) : modP (.int i) (.int j) h = .ok (.int (i % j)) h := int2_ok z
@[simp] theorem divP_pos {i j : Int} {h : VH} (z : 0 < j) (z' : j < 1073741824) : divP (.int i) (.int j) h = .ok (.int (i / j)) h := int2_ok (divC_small z z')
theorem mulP_r {cl : Bool} {i j : Int} {h : VH} (z : -(2 ^ 64) < j) (z' : j < 2 ^ 64) : mulP cl (.int i) (.int j) h = .ok (.int (i * j)) h := mulP_int (MulC.right z z')
theorem mulP_l {cl : Bool} {i j : Int} {h : VH} (z : -(2 ^ 64) < i) (z' : i < 2 ^ 64) : mulP cl (.int i) (.int j) h = .ok (.int (i * j)) h := mulP_int (MulC.left z z')
theorem ixP_tup {xs : List PV} {h : VH} {i : Int} {v : PV} (z : 0 ≤ i) (a : xs[i.toNat]? = some v) : ixP (.tup xs) (.int i) h = .ok v h := ixP_seq (seqOf_tup xs h) (by rw [atI_pos z]; exact a)
theorem ixP_lst {xs : List PV} {h : VH} {i : Int} {v : PV} (z : 0 ≤ i) (a : xs[i.toNat]? = some v) : ixP (.lst xs) (.int i) h = .ok v h := ixP_seq (seqOf_lst xs h) (by rw [atI_pos z]; exact a)
theorem ixP_scr {xs : List PV} {h : VH} {i : Int} {v : PV} (z : 0 ≤ i) (a : xs[i.toNat]? = some v) : ixP (.scr xs) (.int i) h = .ok v h := ixP_seq (seqOf_scr xs h) (by rw [atI_pos z]; exact a)
theorem ixP_ref {k : Nat} {xs : List PV} {h : VH} {i : Int} {v : PV} (e : h[k]? = some (.lst xs)) (z : 0 ≤ i) (a : xs[i.toNat]? = some v) : ixP (.ref k) (.int i) h = .ok v h := ixP_seq (seqOf_ref e) (by rw [atI_pos z]; exact a)
/-! ### isinstance, plain -/
section
variable {t : Tab} {h : VH}
@[simp] theorem isi_int_int (i : Int) : isiP t [.int i, .ty "int"] h = .ok (.bl true) h := (rfl)
@[simp] theorem isi_int_bool (i : Int) : isiP t [.int i, .ty "bool"] h = .ok (.bl false) h := (rfl)
@[simp] theorem isi_int_tup (i : Int) : isiP t [.int i, .ty "tuple"] h = .ok (.bl false) h := (rfl)
@[simp] theorem isi_int_str (i : Int) : isiP t [.int i, .ty "str"] h = .ok (.bl false) h := (rfl)
@[simp] theorem isi_bl_int (i : Bool) : isiP t [.bl i, .ty "int"] h = .ok (.bl true) h := (rfl)
@[simp] theorem isi_bl_bool (i : Bool) : isiP t [.bl i, .ty "bool"] h = .ok (.bl true) h := (rfl)
@[simp] theorem isi_bl_tup (i : Bool) : isiP t [.bl i, .ty "tuple"] h = .ok (.bl false) h := (rfl)
@[simp] theorem isi_bl_str (i : Bool) : isiP t [.bl i, .ty "str"] h = .ok (.bl false) h := (rfl)
@[simp] theorem isi_non_int : isiP t [.non, .ty "int"] h = .ok (.bl false) h := (rfl)
@[simp] theorem isi_non_tup : isiP t [.non, .ty "tuple"] h = .ok (.bl false) h := (rfl)
@[simp] theorem isi_non_str : isiP t [.non, .ty "str"] h = .ok (.bl false) h := (rfl)
@[simp] theorem isi_str_int (i : Str) : isiP t [.str i, .ty "int"] h = .ok (.bl false) h := (rfl)
@[simp] theorem isi_str_tup (i : Str) : isiP t [.str i, .ty "tuple"] h = .ok (.bl false) h := (rfl)
@[simp] theorem isi_str_str (i : Str) : isiP t [.str i, .ty "str"] h = .ok (.bl true) h := (rfl)
@[simp] theorem isi_tup_int (i : List PV) : isiP t [.tup i, .ty "int"] h = .ok (.bl false) h := (rfl)
@[simp] theorem isi_tup_tup (i : List PV) : isiP t [.tup i, .ty "tuple"] h = .ok (.bl true) h := (rfl)
@[simp] theorem isi_tup_str (i : List PV) : isiP t [.tup i, .ty "str"] h = .ok (.bl false) h := (rfl)
@[simp] theorem isi_lst_int (i : List PV) : isiP t [.lst i, .ty "int"] h = .ok (.bl false) h := (rfl)
@[simp] theorem isi_lst_tup (i : List PV) : isiP t [.lst i, .ty "tuple"] h = .ok (.bl false) h := (rfl)
@[simp] theorem isi_lst_str (i : List PV) : isiP t [.lst i, .ty "str"] h = .ok (.bl false) h := (rfl)
end
/-- all plain steps, as one rule -/
theorem pmS : type_of% (And.intro @sCons_def (And.intro @sSet_def (And.intro @sIf_def (And.intro @sNil_def (And.intro @sDrop_def (And.intro @sRet_def (And.intro @sRetN_def (And.intro @sBrk_def (And.intro @sCnt_def (And.intro @sAsg_def (And.intro @sAug_def (And.intro @sRaise_def (And.intro @sFor_def (And.intro @gSlot_def (And.intro @gSubM_def (And.intro @gTupM_tup (And.intro @gCons'_cons (And.intro @gNil'_nil (And.intro @eVar_def (And.intro @eC_def (And.intro @eBin_def (And.intro @eUn_def (And.intro @aNil_def (And.intro @aCons_def (And.intro @eCall_def (And.intro @eAndM_def (And.intro @eOrM_def (And.intro @eNotM_def (And.intro @eIfM_def (And.intro @eChain_def (And.intro @eTup_def (And.intro @eLst_def (And.intro @eFrz_def (And.intro @eGc_def (And.intro @eFz_def (And.intro @eSl_def (And.intro @oNone_def (And.intro @oSome_def (And.intro @asB_bl (And.intro @asI_int (And.intro @tVal_def (And.intro @tAndM_def (And.intro @tOrM_def (And.intro @tNotM_def (And.intro @tYesM_def (And.intro @iSeq_def (And.intro @iRng_def (And.intro @iEnm_def (And.intro @iRvs_def (And.intro @eLm_def (And.intro @eLc_def (And.intro @Res.bind_ok (And.intro @Res.bind_exc (And.intro @Res.bind_bad (And.intro @Res.then_ok (And.intro @Res.then_exc (And.intro @SR.bind_nx (And.intro @SR.bind_rt (And.intro @SR.bind_bk (And.intro @SR.bind_ct (And.intro @SR.bind_xc (And.intro @Res.sr_ok (And.intro @Res.nx_ok (And.intro @Bool.false_eq_true (And.intro @Bool.true_eq_false (And.intro @Bool.not_true (And.intro @Bool.not_false (And.intro @ls_g0 (And.intro @ls_gs (And.intro @ls_s0 (And.intro @ls_ss (And.intro @int2'_ok (And.intro @addP_int (And.intro @absP_int (And.intro @intP_int (And.intro @intP_bl (And.intro @one_eq (And.intro @two_eq (And.intro @lenP_tup (And.intro @lenP_lst (And.intro @lenP_scr (And.intro @tupleP_tup (And.intro @tupleP_lst (And.intro @tupleP_scr (And.intro @mkL_t (And.intro @mkL_f (And.intro @srcSeq_tup (And.intro @srcSeq_lst (And.intro @srcSeq_scr (And.intro @eqP_int (And.intro @eqP_bl (And.intro @eqP_str (And.intro @neP_int (And.intro @neP_bl (And.intro @neP_str (And.intro @negP_int (And.intro @maxP_two (And.intro @minP_two (@decide_eq_true_eq))))))))))))))))))))))))))))))))))))))))))))))))))))))))))))))))))))))))))))))))))))))))))))))))))) := And.intro @sCons_def (And.intro @sSet_def (And.intro @sIf_def (And.intro @sNil_def (And.intro @sDrop_def (And.intro @sRet_def (And.intro @sRetN_def (And.intro @sBrk_def (And.intro @sCnt_def (And.intro @sAsg_def (And.intro @sAug_def (And.intro @sRaise_def (And.intro @sFor_def (And.intro @gSlot_def (And.intro @gSubM_def (And.intro @gTupM_tup (And.intro @gCons'_cons (And.intro @gNil'_nil (And.intro @eVar_def (And.intro @eC_def (And.intro @eBin_def (And.intro @eUn_def (And.intro @aNil_def (And.intro @aCons_def (And.intro @eCall_def (And.intro @eAndM_def (And.intro @eOrM_def (And.intro @eNotM_def (And.intro @eIfM_def (And.intro @eChain_def (And.intro @eTup_def (And.intro @eLst_def (And.intro @eFrz_def (And.intro @eGc_def (And.intro @eFz_def (And.intro @eSl_def (And.intro @oNone_def (And.intro @oSome_def (And.intro @asB_bl (And.intro @asI_int (And.intro @tVal_def (And.intro @tAndM_def (And.intro @tOrM_def (And.intro @tNotM_def (And.intro @tYesM_def (And.intro @iSeq_def (And.intro @iRng_def (And.intro @iEnm_def (And.intro @iRvs_def (And.intro @eLm_def (And.intro @eLc_def (And.intro @Res.bind_ok (And.intro @Res.bind_exc (And.intro @Res.bind_bad (And.intro @Res.then_ok (And.intro @Res.then_exc (And.intro @SR.bind_nx (And.intro @SR.bind_rt (And.intro @SR.bind_bk (And.intro @SR.bind_ct (And.intro @SR.bind_xc (And.intro @Res.sr_ok (And.intro @Res.nx_ok (And.intro @Bool.false_eq_true (And.intro @Bool.true_eq_false (And.intro @Bool.not_true (And.intro @Bool.not_false (And.intro @ls_g0 (And.intro @ls_gs (And.intro @ls_s0 (And.intro @ls_ss (And.intro @int2'_ok (And.intro @addP_int (And.intro @absP_int (And.intro @intP_int (And.intro @intP_bl (And.intro @one_eq (And.intro @two_eq (And.intro @lenP_tup (And.intro @lenP_lst (And.intro @lenP_scr (And.intro @tupleP_tup (And.intro @tupleP_lst (And.intro @tupleP_scr (And.intro @mkL_t (And.intro @mkL_f (And.intro @srcSeq_tup (And.intro @srcSeq_lst (And.intro @srcSeq_scr (And.intro @eqP_int (And.intro @eqP_bl (And.intro @eqP_str (And.intro @neP_int (And.intro @neP_bl (And.intro @neP_str (And.intro @negP_int (And.intro @maxP_two (And.intro @minP_two (@decide_eq_true_eq))))))))))))))))))))))))))))))))))))))))))))))))))))))))))))))))))))))))))))))))))))))))))))))))))
end Pm
namespace PySem.W
open PySem PySem.Spec PySem.Calls PyProof.Rows
section
variable {prog : Program} {w : World} {A : Around} {E : Value → Shared → Prop} {s : Shared} {K : Frag} {x D : Addr} {ox od : Obj}
/-- e.__class__, e an exception that has its dict -/
theorem pm_classD {Q : Option Value → Shared → Prop} (C : L2.ExcC K D) (KI : K.In s.heap) (J : InstAt s.heap x ox D (some od)) (hQ : Q (some (.ref D)) { s with toks := s.toks + 1 }) : wpAny (model prog w) A (getAttr? (.ref x) "__class__") Q E s := by
  have hfd : findObj K D (some od) "__class__" = some (.bind (.builtin "getset_descriptor.__get__") (.builtin "object.__class__")) := findObj_data (by obtain ⟨cd, hcd, _⟩ := any_some C.hd; rw [hcd]; rfl) C.ha C.hn C.ht
  obtain ⟨h0, gg, dd, tt, oo⟩ := s
  have M0 := J.type (M := model prog w)
  have M1 := looks_findIn (M := model prog w) KI C.hg
  have M2 := looks_findIn (M := model prog w) KI C.hk
  have M3 := looks_find (M := model prog w) KI J hfd
  have isE : Looks (model prog w) h0 (isInstance (.ref x) (.type "BaseException")) true := M0.andThen (looks_subIn KI C.hs)
  have q0 : (false && onTheHeap (Value.builtin "BaseException.__getattribute__")) = false := (rfl)
  have q1 : (onTheHeap (Value.ref D) && Value.builtin "BaseException.__getattribute__" == Value.builtin "object.__getattribute__") = false := by
    rw [show (Value.builtin "BaseException.__getattribute__" == Value.builtin "object.__getattribute__") = false by decide +kernel]; rfl
  unfold getAttr? getAttrBy? getAttrBy
  refine wpAny_bind (wpAny_mkText (wpAny_bind (wpAny_attempt (wpAny_holding (wpAny_bind (M0.at (wpAny_bind (M1.at ?_))))))))
  show wpAny _ _ (if (onTheHeap (Value.ref D) && Value.builtin "BaseException.__getattribute__" == Value.builtin "object.__getattribute__") = true then _ else _) _ _ (_ : Shared)
  rw [q1, if_neg Bool.false_ne_true]; unfold getAttrByItsOwn hookBefore
  refine wpAny_bind ?_
  rw [if_pos (show onTheHeap (Value.ref D) = true from (rfl))]
  refine M2.at (wpAny_bind (wpAny_attempt (wpAny_holding ?_)))
  unfold callGetattribute
  rw [q0, if_neg Bool.false_ne_true]; unfold boundAndCalled
  rw [PySem.F.excAttr_ValueError.ga.bind (.ref x)]; refine wpAny_bind (wpAny_pure ?_)
  show wpAny _ _ (call (.builtin "BaseException.__getattribute__") [.ref x, .str "__class__" tt]) _ _ (_ : Shared)
  refine wpAny_call (codeAny_call_builtin (PySem.F.excAttr_ValueError.ga.plain) PySem.F.entry_bexc_ga ?_)
  refine @check_slot (model prog w) _ _ ⟨h0, gg, dd, tt + 1, oo⟩ "BaseException.__getattribute__" "BaseException" "__getattribute__" (.ref x) [.str "__class__" tt] [] _ (by decide +kernel) (by decide +kernel) isE (PySem.F.args_bexc_ga (.ref x) (.str "__class__" tt)) ?_
  unfold Builtin.«object.__getattribute__»
  refine wpAny_bind (wpAny_of_eq (a := ((Value.ref x : Value), [Value.str "__class__" tt])) (by first | rfl | (simp only [slotArgs]; rfl)) ?_)
  refine wpAny_bind (wpAny_pure (wpAny_bind (M0.at (wpAny_bind (M3.at ?_)))))
  show wpAny _ _ (holding [Value.builtin "object.__class__"] (call (.builtin "getset_descriptor.__get__") [.builtin "object.__class__", .ref x, .ref D]) >>= ret) _ _ (_ : Shared)
  refine wpAny_bind (wpAny_holding (wpAny_call (class_get (s := ⟨h0, gg, dd, tt + 1, oo⟩) (ox := ox) (od := some od) KI J C.hm (wpAny_pure ?_))))
  show wpAny _ _ (handedOut (.ref D)) _ _ (_ : Shared)
  rw [handedOut_of (v := .ref D) rfl]
  first
    | exact (wpAny_pure (wpAny_pure hQ))
    | exact (wpAny_pure hQ)
    | exact (wpAny_pure (wpAny_bind (wpAny_pure (wpAny_pure hQ))))
theorem pm_kitD (C : L2.ExcC K D) : KitX K (.ref x) (.ref D) (fun h => InstAt h x ox D (some od)) where
  ty := fun _ _ _ J => J.type
  it := fun _ _ KI _ => by
    obtain ⟨cd1, hc1, _⟩ := any_some C.hd
    unfold clsIn at hc1
    split at hc1
    · rename_i c1 d1 cdd sl1 hlk
      intro A1 Q1 E1 s1 k1 q1
      unfold isType loadHead; exact wpAny_bind (wpAny_loadPart (k1 _ _ (KI _ _ hlk)) (wpAny_pure q1))
    · cases hc1
  ne := (handS_kitx_exc (x := x) (ox := ox) C.hg C.hk C.hs C.hd C.ha C.hn C.ht C.hm).ne
  ca := fun KI J k => pm_classD C KI J k
end
end PySem.W
namespace Pm
open PySem PySem.Spec L2 PyProof.Rows

/-! ### values without the exception of a suite -/
mutual
def cleanV : PV → Prop
  | .tup xs => cleanVs xs
  | .lst xs => cleanVs xs
  | .scr xs => cleanVs xs
  | .ins _ fs => cleanF fs
  | .exn => False
  | _ => True
def cleanVs : List PV → Prop
  | [] => True
  | x :: xs => cleanV x ∧ cleanVs xs
def cleanF : List (Str × PV) → Prop
  | [] => True
  | (_, x) :: xs => cleanV x ∧ cleanF xs
end
def cleanO : PO → Prop
  | .lst xs => cleanVs xs
  | .dic _ kvs => ∀ p ∈ kvs, cleanV p.2
  | .ins _ fs => cleanF fs
  | .dead => True
def cleanH (h : VH) : Prop := ∀ o ∈ h, cleanO o
def cleanL (σ : LS) : Prop := ∀ v, some v ∈ σ → cleanV v
@[simp] theorem cleanV_non : cleanV .non := by simp [cleanV]
@[simp] theorem cleanV_bl (b : Bool) : cleanV (.bl b) := by simp [cleanV]
@[simp] theorem cleanV_int (i : Int) : cleanV (.int i) := by simp [cleanV]
@[simp] theorem cleanV_str (i : Str) : cleanV (.str i) := by simp [cleanV]
@[simp] theorem cleanV_ty (i : String) : cleanV (.ty i) := by simp [cleanV]
@[simp] theorem cleanV_cls (i : Nat) : cleanV (.cls i) := by simp [cleanV]
@[simp] theorem cleanV_tup (xs : List PV) : cleanV (.tup xs) ↔ cleanVs xs := by simp [cleanV]
@[simp] theorem cleanV_lst (xs : List PV) : cleanV (.lst xs) ↔ cleanVs xs := by simp [cleanV]
@[simp] theorem cleanV_scr (xs : List PV) : cleanV (.scr xs) ↔ cleanVs xs := by simp [cleanV]
@[simp] theorem cleanV_ins (C : Nat) (fs : List (Str × PV)) : cleanV (.ins C fs) ↔ cleanF fs := by simp [cleanV]
@[simp] theorem cleanV_ref (i : Nat) : cleanV (.ref i) := by simp [cleanV]
@[simp] theorem cleanVs_nil : cleanVs [] := by simp [cleanVs]
@[simp] theorem cleanVs_cons (x : PV) (xs : List PV) : cleanVs (x :: xs) ↔ cleanV x ∧ cleanVs xs := by simp [cleanVs]
@[simp] theorem cleanF_nil : cleanF [] := by simp [cleanF]
@[simp] theorem cleanF_cons (p : Str × PV) (xs : List (Str × PV)) : cleanF (p :: xs) ↔ cleanV p.2 ∧ cleanF xs := by cases p; simp [cleanF]
theorem cleanVs_iff : ∀ {xs : List PV}, cleanVs xs ↔ ∀ x ∈ xs, cleanV x
  | [] => by simp
  | x :: xs => by simp [cleanVs_iff (xs := xs)]
theorem cleanVs_map {α : Type} {f : α → PV} {xs : List α} (h : ∀ x ∈ xs, cleanV (f x)) : cleanVs (xs.map f) := by
  rw [cleanVs_iff]; intro y hy
  obtain ⟨x, hx, rfl⟩ := List.mem_map.mp hy
  exact h x hx
@[simp] theorem cleanVs_ints (xs : List Int) : cleanVs (xs.map PV.int) := cleanVs_map fun _ _ => cleanV_int _
@[simp] theorem cleanVs_bls (xs : List Bool) : cleanVs (xs.map PV.bl) := cleanVs_map fun _ _ => cleanV_bl _
@[simp] theorem cleanVs_strs (xs : List Str) : cleanVs (xs.map PV.str) := cleanVs_map fun _ _ => cleanV_str _
@[simp] theorem cleanVs_append (xs ys : List PV) : cleanVs (xs ++ ys) ↔ cleanVs xs ∧ cleanVs ys := by
  simp only [cleanVs_iff, List.mem_append]
  exact ⟨fun h => ⟨fun x hx => h x (.inl hx), fun x hx => h x (.inr hx)⟩, fun h x hx => hx.elim (h.1 x) (h.2 x)⟩
section
variable {F : PySem.W.Frag} {cl : Nat → Addr} {ex ex' : Option (Addr × Addr × PX)} {g : Gh} {n : Nat}
mutual
theorem clean_of_rep : ∀ {x : PV} {u : V}, Rep ⟨F, ⟨cl, none⟩⟩ g n x u → cleanV x
  | .non, _, _ => cleanV_non
  | .bl _, _, _ => cleanV_bl _
  | .int _, _, _ => cleanV_int _
  | .str _, _, _ => cleanV_str _
  | .ty _, _, _ => cleanV_ty _
  | .cls _, _, _ => cleanV_cls _
  | .ref _, _, _ => cleanV_ref _
  | .exn, _, h => by
    simp only [Rep] at h
    obtain ⟨a, dd, e, z, _⟩ := h
    cases z
  | .tup xs, _, h => by
    simp only [Rep] at h
    obtain ⟨a, us, e, s, r⟩ := h
    simpa only [cleanV] using cleans_of_rep r
  | .lst xs, _, h => by
    simp only [Rep] at h
    obtain ⟨a, us, e, s, r⟩ := h
    simpa only [cleanV] using cleans_of_rep r
  | .scr xs, _, h => by
    simp only [Rep] at h
    obtain ⟨a, us, e, s, r⟩ := h
    simpa only [cleanV] using cleans_of_rep r
  | .ins C fs, _, h => by
    simp only [Rep] at h
    obtain ⟨a, dx, gs, e, s, r⟩ := h
    simpa only [cleanV] using cleanF_of_rep r
theorem cleans_of_rep : ∀ {xs : List PV} {us : List V}, Reps ⟨F, ⟨cl, none⟩⟩ g n xs us → cleanVs xs
  | [], _, _ => by simp only [cleanVs]
  | x :: xs, _, h => by
    simp only [Reps] at h
    obtain ⟨u, r, e, a, b⟩ := h
    simp only [cleanVs]
    exact ⟨clean_of_rep a, cleans_of_rep b⟩
theorem cleanF_of_rep : ∀ {fs : List (Str × PV)} {us : List (Str × V)}, RepF ⟨F, ⟨cl, none⟩⟩ g n fs us → cleanF fs
  | [], _, _ => by simp only [cleanF]
  | (f, x) :: xs, _, h => by
    simp only [RepF] at h
    obtain ⟨u, r, e, a, b⟩ := h
    simp only [cleanF]
    exact ⟨clean_of_rep a, cleanF_of_rep b⟩
end
mutual
theorem rep_sw : ∀ {x : PV} {u : V}, Rep ⟨F, ⟨cl, ex⟩⟩ g n x u → cleanV x → Rep ⟨F, ⟨cl, ex'⟩⟩ g n x u
  | .non, _, h, _ => by simpa only [Rep] using h
  | .bl _, _, h, _ => by simpa only [Rep] using h
  | .int _, _, h, _ => by simpa only [Rep] using h
  | .str _, _, h, _ => by simpa only [Rep] using h
  | .ty _, _, h, _ => by simpa only [Rep] using h
  | .cls _, _, h, _ => by simpa only [Rep] using h
  | .ref _, _, h, _ => by simpa only [Rep] using h
  | .exn, _, _, q => by simp only [cleanV] at q
  | .tup xs, _, h, q => by
    simp only [Rep] at h ⊢
    simp only [cleanV] at q
    obtain ⟨a, us, e, s, r⟩ := h
    exact ⟨a, us, e, s, reps_sw r q⟩
  | .lst xs, _, h, q => by
    simp only [Rep] at h ⊢
    simp only [cleanV] at q
    obtain ⟨a, us, e, s, r⟩ := h
    exact ⟨a, us, e, s, reps_sw r q⟩
  | .scr xs, _, h, q => by
    simp only [Rep] at h ⊢
    simp only [cleanV] at q
    obtain ⟨a, us, e, s, r⟩ := h
    exact ⟨a, us, e, s, reps_sw r q⟩
  | .ins C fs, _, h, q => by
    simp only [Rep] at h ⊢
    simp only [cleanV] at q
    obtain ⟨a, dx, gs, e, s, r⟩ := h
    exact ⟨a, dx, gs, e, s, repF_sw r q⟩
theorem reps_sw : ∀ {xs : List PV} {us : List V}, Reps ⟨F, ⟨cl, ex⟩⟩ g n xs us → cleanVs xs → Reps ⟨F, ⟨cl, ex'⟩⟩ g n xs us
  | [], _, h, _ => by simpa only [Reps] using h
  | x :: xs, _, h, q => by
    simp only [Reps] at h ⊢
    simp only [cleanVs] at q
    obtain ⟨u, r, e, a, b⟩ := h
    exact ⟨u, r, e, rep_sw a q.1, reps_sw b q.2⟩
theorem repF_sw : ∀ {fs : List (Str × PV)} {us : List (Str × V)}, RepF ⟨F, ⟨cl, ex⟩⟩ g n fs us → cleanF fs → RepF ⟨F, ⟨cl, ex'⟩⟩ g n fs us
  | [], _, h, _ => by simpa only [RepF] using h
  | (f, x) :: xs, _, h, q => by
    simp only [RepF] at h ⊢
    simp only [cleanF] at q
    obtain ⟨u, r, e, a, b⟩ := h
    exact ⟨u, r, e, rep_sw a q.1, repF_sw b q.2⟩
end
theorem repD_sw {κ : Type} {key : PV → Option κ} : ∀ {kvs : List (PV × PV)} {us : List (κ × V)}, RepD ⟨F, ⟨cl, ex⟩⟩ g n key kvs us → (∀ p ∈ kvs, cleanV p.2) → RepD ⟨F, ⟨cl, ex'⟩⟩ g n key kvs us
  | [], _, h, _ => by simpa only [RepD] using h
  | (k, x) :: xs, _, h, q => by
    simp only [RepD] at h ⊢
    obtain ⟨k', u, r, e, ek, a, b⟩ := h
    exact ⟨k', u, r, e, ek, rep_sw a (q _ List.mem_cons_self), repD_sw b fun p hp => q p (List.mem_cons_of_mem _ hp)⟩
theorem cleanD_of_rep {κ : Type} {key : PV → Option κ} : ∀ {kvs : List (PV × PV)} {us : List (κ × V)}, RepD ⟨F, ⟨cl, none⟩⟩ g n key kvs us → ∀ p ∈ kvs, cleanV p.2
  | [], _, _, p, hp => by cases hp
  | (k, x) :: xs, _, h, p, hp => by
    simp only [RepD] at h
    obtain ⟨k', u, r, e, ek, a, b⟩ := h
    rcases List.mem_cons.mp hp with rfl | hp
    · exact clean_of_rep a
    · exact cleanD_of_rep b p hp
theorem repO_sw {o : PO} {u : HO} (h : RepO ⟨F, ⟨cl, ex⟩⟩ g n o u) (q : cleanO o) : RepO ⟨F, ⟨cl, ex'⟩⟩ g n o u := by
  cases o with
  | lst xs => obtain ⟨us, e, r⟩ := h; exact ⟨us, e, reps_sw r q⟩
  | dic t kvs =>
    cases t with
    | false => obtain ⟨us, e, r⟩ := h; exact ⟨us, e, repD_sw r q⟩
    | true => obtain ⟨us, e, r⟩ := h; exact ⟨us, e, repD_sw r q⟩
  | ins C fs => obtain ⟨dx, gs, e, r⟩ := h; exact ⟨dx, gs, e, repF_sw r q⟩
  | dead => trivial
theorem cleanO_of_rep {o : PO} {u : HO} (h : RepO ⟨F, ⟨cl, none⟩⟩ g n o u) : cleanO o := by
  cases o with
  | lst xs => obtain ⟨us, e, r⟩ := h; exact cleans_of_rep r
  | dic t kvs =>
    cases t with
    | false => obtain ⟨us, e, r⟩ := h; exact cleanD_of_rep r
    | true => obtain ⟨us, e, r⟩ := h; exact cleanD_of_rep r
  | ins C fs => obtain ⟨dx, gs, e, r⟩ := h; exact cleanF_of_rep r
  | dead => trivial
variable {h : VH} {H : Hp} {σ : LS} {τ : L2.St}
theorem RelH.enter {a dd : Addr} {e : PX} {gs : List (Str × V)} (r : RelH ⟨F, ⟨cl, none⟩⟩ g h H) (hd : g.Hf dd = some (.xd gs)) (rf : RepF ⟨F, ⟨cl, none⟩⟩ g h.length e.fs gs) : RelH ⟨F, ⟨cl, some (a, dd, e)⟩⟩ g h H := by
  refine ⟨r.same, fun i o z d => ?_, r.sep, r.inj, r.fr, fun a2 d2 e2 z => ?_⟩
  · obtain ⟨u, hu, ru⟩ := r.cell i o z d
    exact ⟨u, hu, repO_sw ru (cleanO_of_rep ru)⟩
  · cases z
    exact ⟨gs, hd, repF_sw rf (cleanF_of_rep rf)⟩
theorem RelH.leave (r : RelH ⟨F, ⟨cl, ex⟩⟩ g h H) (q : cleanH h) : RelH ⟨F, ⟨cl, none⟩⟩ g h H := by
  refine ⟨r.same, fun i o z d => ?_, r.sep, r.inj, r.fr, fun a2 d2 e2 z => by cases z⟩
  obtain ⟨u, hu, ru⟩ := r.cell i o z d
  exact ⟨u, hu, repO_sw ru (q o (List.mem_of_getElem? z))⟩
theorem RelS.enter (r : RelS ⟨F, ⟨cl, none⟩⟩ g n σ τ) : RelS ⟨F, ⟨cl, ex⟩⟩ g n σ τ := ⟨r.len, fun i v z => let ⟨u, e, ru⟩ := r.get i v z; ⟨u, e, rep_sw ru (clean_of_rep ru)⟩⟩
theorem RelS.leave (r : RelS ⟨F, ⟨cl, ex⟩⟩ g n σ τ) (q : cleanL σ) : RelS ⟨F, ⟨cl, none⟩⟩ g n σ τ := ⟨r.len, fun i v z => let ⟨u, e, ru⟩ := r.get i v z; ⟨u, e, rep_sw ru (q v (List.mem_of_getElem? z))⟩⟩
end

/-! ### try -/
def undo {α : Type} (o : Option Nat) (σ : List (Option α)) : List (Option α) := match o with
  | some i => σ.set i none
  | none => σ
@[simp] theorem undo_some {α : Type} (i : Nat) (σ : List (Option α)) : undo (some i) σ = σ.set i none := rfl
@[simp] theorem undo_none {α : Type} (σ : List (Option α)) : undo none σ = σ := rfl
def seti (o : Option Nat) (σ : LS) : LS := match o with
  | some i => σ.set i (some .exn)
  | none => σ
@[simp] theorem seti_some (i : Nat) (σ : LS) : seti (some i) σ = σ.set i (some .exn) := rfl
@[simp] theorem seti_none (σ : LS) : seti none σ = σ := rfl
open Classical in
noncomputable def unb (i : Option Nat) : SR → SR
  | .nx σ h => if cleanL (undo i σ) ∧ cleanH h then .nx (undo i σ) h else .bad
  | .bk σ h => if cleanL (undo i σ) ∧ cleanH h then .bk (undo i σ) h else .bad
  | .ct σ h => if cleanL (undo i σ) ∧ cleanH h then .ct (undo i σ) h else .bad
  | .rt v h => if cleanV v ∧ cleanH h then .rt v h else .bad
  | .xc _ _ _ => .bad
  | .bad => .bad
theorem unb_rt {i : Option Nat} {v : PV} {h : VH} (a : cleanV v) (b : cleanH h) : unb i (.rt v h) = .rt v h := if_pos ⟨a, b⟩
theorem unb_nx {i : Nat} {σ : LS} {h : VH} (a : cleanL (σ.set i none)) (b : cleanH h) : unb (some i) (.nx σ h) = .nx (σ.set i none) h := if_pos ⟨a, b⟩
theorem unb_nx0 {σ : LS} {h : VH} (a : cleanL σ) (b : cleanH h) : unb none (.nx σ h) = .nx σ h := if_pos ⟨a, b⟩
/-- body; an exception of the classes sub goes to the suite -/
noncomputable def sTry (sub : Nat → Option Bool) (i : Option Nat) (mb : SM) (ms : PX → SM) : SM := fun σ h => match mb σ h with
  | .xc e σ' h' => match sub e.C with
    | some true => unb i (ms e (seti i σ') h')
    | some false => .xc e σ' h'
    | none => .bad
  | r => r
theorem sTry_def (sub : Nat → Option Bool) (i : Option Nat) (mb : SM) (ms : PX → SM) (σ : LS) (h : VH) : sTry sub i mb ms σ h = (match mb σ h with
  | .xc e σ' h' => match sub e.C with
    | some true => unb i (ms e (seti i σ') h')
    | some false => .xc e σ' h'
    | none => .bad
  | r => r) := (rfl)
theorem sTry_nx {sub : Nat → Option Bool} {i : Option Nat} {mb : SM} {ms : PX → SM} {σ σ' : LS} {h h' : VH} (e : mb σ h = .nx σ' h') : sTry sub i mb ms σ h = .nx σ' h' := by rw [sTry_def, e]
theorem sTry_rt {sub : Nat → Option Bool} {i : Option Nat} {mb : SM} {ms : PX → SM} {σ : LS} {h h' : VH} {v : PV} (e : mb σ h = .rt v h') : sTry sub i mb ms σ h = .rt v h' := by rw [sTry_def, e]
theorem sTry_xc {sub : Nat → Option Bool} {i : Option Nat} {mb : SM} {ms : PX → SM} {σ σ' : LS} {h h' : VH} {x : PX} (e : mb σ h = .xc x σ' h') (b : sub x.C = some true) : sTry sub i mb ms σ h = unb i (ms x (seti i σ') h') := by rw [sTry_def, e]; simp only [b]
/-- a statement's model as a reading -/
def tsOf (K : Kc) (W : WX) (m : SM) : TS := fun D τ H => ∃ g σ h, RelS K g h.length σ τ ∧ RelH K g h H ∧ PostS K g h.length D W (m σ h)
theorem SS.pss {c : Ck} {X : Cx} {W : WX} {s : List Stmt} {m : SM} (h : SS c X W s m) : PSs X s (tsOf (kx c X) W m) := by
  obtain ⟨t, p, q⟩ := h
  exact ⟨fun pins s τ H D I ⟨g, σ, h, rs, rh, z⟩ => p.run pins s τ H D I (q g σ h τ H D rs rh z)⟩
def Ck.exc (c : Ck) (a dd : Addr) (e : PX) : Ck := ⟨c.cls, some (a, dd, e)⟩
section
variable {c : Ck} {X : Cx} {x n : Str} {cv : Value} {i : Nat} {body suite : List Stmt} {b₀ : Stmt} {np pos pos' : Pos} {mb : SM} {ms : PX → SM} {Wout : WX} {sub : Nat → Option Bool}
/-- the suite's reading -/
def tsSu (X : Cx) (c : Ck) (ms : PX → SM) (a : Addr) (cls : Value) (d : Option Addr) : TS := fun D τ H => ∃ e dd, cls = .ref (c e.C) ∧ d = some dd ∧ tsOf (kx (c.exc a dd e) X) W0 (ms e) D τ H
theorem su_pss (hsu : ∀ (a dd : Addr) (e : PX) (oe : Obj) (pn : List (Addr × Obj)), Zc (.ref (c e.C)) (some dd) oe → (∃ vs, oe.data = .fields vs) → SS (c.exc a dd e) (X.suite a ((a, oe) :: pn)) W0 (b₀ :: suite) (ms e))
    (a : Addr) (oe : Obj) (cls : Value) (d : Option Addr) (pn : List (Addr × Obj)) (hz : Zc cls d oe) (hf : ∃ vs, oe.data = .fields vs) : PSs (X.suite a ((a, oe) :: pn)) (b₀ :: suite) (tsSu X c ms a cls d) := by
  refine ⟨fun pins s τ H D I ⟨e, dd, e1, e2, q⟩ => ?_⟩
  subst e1 e2
  exact (hsu a dd e oe pn hz hf).pss.run pins s τ H D I q
open Classical in
theorem unb_post {F : PySem.W.Frag} {cl : Nat → Addr} {ex : Option (Addr × Addr × PX)} {g : Gh} {n : Nat} {D : Ends} {W : WX} {o : Option Nat} {r : SR} (q : PostS ⟨F, ⟨cl, none⟩⟩ g n D W (unb o r)) :
    PostS ⟨F, ⟨cl, ex⟩⟩ g n { nx := fun σ' H' => D.nx (undo o σ') H', rt := D.rt, bk := fun σ' H' => D.bk (undo o σ') H', ct := fun σ' H' => D.ct (undo o σ') H' } W0 r := by
  cases r with
  | nx σ h =>
    have q : PostS ⟨F, ⟨cl, none⟩⟩ g n D W (if cleanL (undo o σ) ∧ cleanH h then .nx (undo o σ) h else .bad) := q
    by_cases z : cleanL (undo o σ) ∧ cleanH h
    · rw [if_pos z] at q
      intro g' τ H l hn rh rs
      cases o with
      | none => exact q g' τ H l hn (rh.leave z.2) (rs.leave z.1)
      | some i => exact q g' _ H l hn (rh.leave z.2) ((rs.forget i).leave z.1)
    · rw [if_neg z] at q
      exact q.elim
  | bk σ h =>
    have q : PostS ⟨F, ⟨cl, none⟩⟩ g n D W (if cleanL (undo o σ) ∧ cleanH h then .bk (undo o σ) h else .bad) := q
    by_cases z : cleanL (undo o σ) ∧ cleanH h
    · rw [if_pos z] at q
      intro g' τ H l hn rh rs
      cases o with
      | none => exact q g' τ H l hn (rh.leave z.2) (rs.leave z.1)
      | some i => exact q g' _ H l hn (rh.leave z.2) ((rs.forget i).leave z.1)
    · rw [if_neg z] at q
      exact q.elim
  | ct σ h =>
    have q : PostS ⟨F, ⟨cl, none⟩⟩ g n D W (if cleanL (undo o σ) ∧ cleanH h then .ct (undo o σ) h else .bad) := q
    by_cases z : cleanL (undo o σ) ∧ cleanH h
    · rw [if_pos z] at q
      intro g' τ H l hn rh rs
      cases o with
      | none => exact q g' τ H l hn (rh.leave z.2) (rs.leave z.1)
      | some i => exact q g' _ H l hn (rh.leave z.2) ((rs.forget i).leave z.1)
    · rw [if_neg z] at q
      exact q.elim
  | rt v h =>
    have q : PostS ⟨F, ⟨cl, none⟩⟩ g n D W (if cleanV v ∧ cleanH h then .rt v h else .bad) := q
    by_cases z : cleanV v ∧ cleanH h
    · rw [if_pos z] at q
      intro g' u H l hn rh rv
      exact q g' u H l hn (rh.leave z.2) (rep_sw rv z.1)
    · rw [if_neg z] at q
      exact q.elim
  | xc e σ h => exact q.elim
  | bad => exact q.elim
theorem S1.tryAs (hx0 : c.ex = none) (hs : X.stack = X.env :: X.outer) (hf : X.env.frame = some X.env.locals) (hN : X.N.Nodup) (hi : X.N[i]? = some n) (hln : X.env.kindOf n = some .local) (hc : Names X x cv) (tk : Takes X Wout)
    (hsub : ∀ C b, sub C = some b → PySem.W.exmOne X.K (.ref (c C)) cv = some b)
    (hb : ∀ (W : WX) (pn : List (Addr × Obj)) (xe : Value → Shared → Prop), Takes (X.tr pn xe) W → PassesOwn (model X.prog X.w) X.A X.env xe → SS c (X.tr pn xe) W body mb)
    (hsu : ∀ (a dd : Addr) (e : PX) (oe : Obj) (pn : List (Addr × Obj)), Zc (.ref (c e.C)) (some dd) oe → (∃ vs, oe.data = .fields vs) → SS (c.exc a dd e) (X.suite a ((a, oe) :: pn)) W0 (b₀ :: suite) (ms e)) :
    S1 c X Wout (.Try body [.ExceptHandler (some (.Name x np)) (some n) (b₀ :: suite) pos'] [] [] pos) (sTry sub (some i) mb ms) := by
  refine ⟨_, ps_try_as (tb := fun W => tsOf (kx c X) W mb) (ts := tsSu X c ms) hs hf hN hi hln hc tk (fun W pn xe t p => (hb W pn xe t p).pss) (su_pss hsu), fun g σ h τ H D rs rh q => ⟨g, σ, h, rs, rh, ?_⟩⟩
  obtain ⟨cl, ex⟩ := c
  dsimp only at hx0
  subst hx0
  rw [sTry_def] at q
  generalize mb σ h = r at q ⊢
  cases r with
  | nx σ' h' => exact q
  | bk σ' h' => exact q
  | ct σ' h' => exact q
  | rt v h' => exact q
  | bad => exact q
  | xc e σ' h' =>
    dsimp only at q
    intro g' cls d τ' H' l hn rh' rs' rx
    obtain ⟨rfl, dd, gs, rfl, hd, rf⟩ := rx
    split at q
    · rename_i hb'
      refine ⟨true, hsub _ _ hb', fun _ a na => ⟨e, dd, rfl, rfl, g', σ'.set i (some .exn), h', ?_, rh'.enter hd rf, unb_post (PostS.up q l hn)⟩, fun z => by cases z⟩
      exact (RelS.enter rs').set i (by simp only [Rep]; exact ⟨a, dd, e, rfl, rfl⟩)
    · rename_i hb'
      refine ⟨false, hsub _ _ hb', fun z => (by cases z), fun _ => ?_⟩
      exact q g' _ _ τ' H' l hn rh' rs' ⟨rfl, dd, gs, rfl, hd, rf⟩
    · exact q.elim
theorem S1.tryOnly (hx0 : c.ex = none) (hs : X.stack = X.env :: X.outer) (hf : X.env.frame = some X.env.locals) (hc : Names X x cv) (tk : Takes X Wout)
    (hsub : ∀ C b, sub C = some b → PySem.W.exmOne X.K (.ref (c C)) cv = some b)
    (hb : ∀ (W : WX) (pn : List (Addr × Obj)) (xe : Value → Shared → Prop), Takes (X.tr pn xe) W → PassesOwn (model X.prog X.w) X.A X.env xe → SS c (X.tr pn xe) W body mb)
    (hsu : ∀ (a dd : Addr) (e : PX) (oe : Obj) (pn : List (Addr × Obj)), Zc (.ref (c e.C)) (some dd) oe → (∃ vs, oe.data = .fields vs) → SS (c.exc a dd e) (X.suite a ((a, oe) :: pn)) W0 (b₀ :: suite) (ms e)) :
    S1 c X Wout (.Try body [.ExceptHandler (some (.Name x np)) none (b₀ :: suite) pos'] [] [] pos) (sTry sub none mb ms) := by
  refine ⟨_, ps_try_only (tb := fun W => tsOf (kx c X) W mb) (ts := tsSu X c ms) hs hf hc tk (fun W pn xe t p => (hb W pn xe t p).pss) (su_pss hsu), fun g σ h τ H D rs rh q => ⟨g, σ, h, rs, rh, ?_⟩⟩
  obtain ⟨cl, ex⟩ := c
  dsimp only at hx0
  subst hx0
  rw [sTry_def] at q
  generalize mb σ h = r at q ⊢
  cases r with
  | nx σ' h' => exact q
  | bk σ' h' => exact q
  | ct σ' h' => exact q
  | rt v h' => exact q
  | bad => exact q
  | xc e σ' h' =>
    dsimp only at q
    intro g' cls d τ' H' l hn rh' rs' rx
    obtain ⟨rfl, dd, gs, rfl, hd, rf⟩ := rx
    split at q
    · rename_i hb'
      exact ⟨true, hsub _ _ hb', fun _ a na => ⟨e, dd, rfl, rfl, g', σ', h', RelS.enter rs', rh'.enter hd rf, unb_post (o := none) (PostS.up q l hn)⟩, fun z => by cases z⟩
    · rename_i hb'
      refine ⟨false, hsub _ _ hb', fun z => (by cases z), fun _ => ?_⟩
      exact q g' _ _ τ' H' l hn rh' rs' ⟨rfl, dd, gs, rfl, hd, rf⟩
    · exact q.elim

/-! ### what a suite may ask of its exception -/
/-- e.f, for an exception of the classes cs -/
def eXf (cs : List Nat) (e : PX) (i : Nat) (f : Str) : EM := fun σ h => match σ[i]?, e.fs.lookup f, cs.contains e.C with
  | some (some .exn), some v, true => .ok v h
  | _, _, _ => .bad
theorem eXf_def (cs : List Nat) (e : PX) (i : Nat) (f : Str) (σ : LS) (h : VH) : eXf cs e i f σ h = (match σ[i]?, e.fs.lookup f, cs.contains e.C with
  | some (some .exn), some v, true => .ok v h
  | _, _, _ => .bad) := (rfl)
variable {W : WX} {a dd : Addr} {e : PX} {oe : Obj} {pn : List (Addr × Obj)} {f : Str} {p apos : Pos}
theorem SE.xf (i : Nat) {cs : List Nat} (T : ∀ n ∈ cs, XfC X.K (c n) ∧ PySem.W.findIn X.K (.ref (c n)) f = some none) (hz : Zc (.ref (c e.C)) (some dd) oe) (hfd : ∃ vs, oe.data = .fields vs)
    (hN : X.N[i]? = some x := by rfl) (hv : Vis X.env.scope x := by first | exact Or.inl rfl | exact Or.inr (Or.inl rfl) | exact Or.inr (Or.inr rfl)) (hdb : (x == ("__debug__" : Str)) = false := by decide) (hcd : (x == ("__classdict__" : Str)) = false := by decide)
    (hb : attributeBase (.Name x p) f X.env (eval (.Name x p) X.env) = eval (.Name x p) X.env := by rfl) : SE (c.exc a dd e) (X.suite a ((a, oe) :: pn)) W (.Attribute (.Name x p) f pos) (eXf cs e i f) := by
  by_cases hl : e.C ∈ cs
  · obtain ⟨t1, t2⟩ := T _ hl
    refine ⟨_, pe_xf (X := X) t1 t2 hz hfd (pe_var (X := X.suite a ((a, oe) :: pn)) (i := i) hN hv hdb hcd) hb, fun g σ h τ H Q rs rh q => ?_⟩
    rw [eXf_def] at q
    split at q
    · rename_i v e1 e2 _
      obtain ⟨u, e3, r⟩ := rs.get i .exn e1
      simp only [Rep] at r
      obtain ⟨a', d', e', z, rfl⟩ := r
      cases z
      obtain ⟨gs, hgs, rf⟩ := rh.ex a dd e rfl
      obtain ⟨w, hw, rw'⟩ := (RepF.lookup (f := f) rf).1 v e2
      exact ⟨_, e3, rfl, rfl, dd, gs, w, rfl, rh.same _ _ hgs, hw, const_run rh rw' q⟩
    · exact q.elim
  · -- never read
    refine ⟨fun _ _ _ => False, ⟨fun _ _ _ _ _ _ z => z.elim⟩, fun g σ h τ H Q rs rh q => ?_⟩
    rw [eXf_def] at q
    split at q
    · rename_i z
      exact hl (List.contains_iff_mem.mp z)
    · exact q.elim
theorem ExcC.xf {K : PySem.W.Frag} {D : Addr} (C : ExcC K D) : XfC K D := ⟨C.hg, C.hk, C.hs, C.hd⟩
theorem ht_glob {X : Cx} {x : Str} {n : Nat} {pos : Pos} (hg : Gl X x) (hm : X.mg x = some (.ref (c n))) (hd : (x == ("__debug__" : Str)) = false := by decide) : ∃ v, PE X (.Name x pos) (tC v) ∧ ClsV v (tkV c (.cls n)) :=
  ⟨.ref (c n), pe_glob hg hm rfl hd, .own _⟩
theorem ht_bty {X : Cx} {x : Str} {T : String} {pos : Pos} (hg : Gl X x) (hm : X.mg x = none) (hv : bootBuiltins x = some (.type T)) (hn : x ≠ "__name__" := by decide) (hd : (x == ("__debug__" : Str)) = false := by decide) : ∃ v, PE X (.Name x pos) (tC v) ∧ ClsV v (tkV c (.ty T)) :=
  ⟨.ty T, pe_bltn hg hm hv (v := .ty T) rfl hn hd, .ty _⟩
/-- isinstance(e, T) -/
def rIsD (K : PySem.W.Frag) (D a dd : Addr) : List V → Hp → VK → Prop := fun xs H Q => ∃ (c : V) (cv : Value) (b : Bool) (gs : List (Str × V)), xs = [.ref a, c] ∧ ClsV c cv ∧ H dd = some (.xd gs) ∧ PySem.W.kitOne K (.ref D) cv = some b ∧ Q (.bl b) H
theorem call_isD {X : Cx} {a D dd : Addr} {oe : Obj} {pn : List (Addr × Obj)} (C : ExcC X.K D) (hz : Zc (.ref D) (some dd) oe) (hf : ∃ vs, oe.data = .fields vs) : CallR (X.suite a ((a, oe) :: pn)) (.builtin "isinstance") (rIsD X.K D a dd) := by
  intro pins s σ H xs us Q I r h
  obtain ⟨c, cv, b, gs, rfl, hcv, hd, e, q⟩ := h
  obtain ⟨u1, u2, rfl, rx, rt⟩ := vals2 r
  cases rx
  have ec := hcv.eq rt
  subst ec
  obtain ⟨hget, _⟩ := I.pin (a, oe) (List.mem_append.mpr (.inl List.mem_cons_self))
  obtain ⟨vs, hv⟩ := hf
  obtain ⟨mA, hns, hr⟩ := (show ObjOk X.prog X.w H s.heap dd (.xd gs) from I.hok dd _ hd)
  obtain ⟨od, ho, hl⟩ := lookIn_ns hns
  have J : PySem.W.InstAt s.heap a oe D (some od) := by
    obtain ⟨oc, odd, oda, osl⟩ := oe
    obtain ⟨h1, h2⟩ := hz
    dsimp only at h1 h2 hv
    subst h1 h2 hv
    exact ⟨hget, rfl, rfl, ho⟩
  exact PySem.W.kia_one (PySem.W.pm_kitD C) I.kIn J e (fun z => nomatch z) fun tk => ⟨.bl b, H, I.kept (t' := tk) fun _ _ z => z, rfl, q⟩
/-- the classes of exceptions asked about -/
structure XTab (c : Ck) (K : PySem.W.Frag) (t : Tab) : Prop where
  kit : ∀ e ∈ t, PySem.W.kitOne K (tkV c e.1) (tkV c e.2.1) = some e.2.2
  exc : ∀ e ∈ t, ∀ C, e.1 = .cls C → ExcC K (c C)
def eIsx (t : Tab) (e : PX) (i : Nat) (T : Tk) : EM := fun σ h => match σ[i]?, t.at' (.cls e.C) T with
  | some (some .exn), some b => .ok (.bl b) h
  | _, _ => .bad
theorem eIsx_def (t : Tab) (e : PX) (i : Nat) (T : Tk) (σ : LS) (h : VH) : eIsx t e i T σ h = (match σ[i]?, t.at' (.cls e.C) T with
  | some (some .exn), some b => .ok (.bl b) h
  | _, _ => .bad) := (rfl)
theorem Tab.at_mem {t : Tab} {a b : Tk} {r : Bool} (h : t.at' a b = some r) : (a, b, r) ∈ t := by
  unfold Tab.at' at h
  obtain ⟨e, h1, h2⟩ := Option.map_eq_some_iff.mp h
  have m := List.mem_of_find?_eq_some h1
  have p := List.find?_some h1
  rw [Bool.and_eq_true, decide_eq_true_eq, decide_eq_true_eq] at p
  obtain ⟨e1, e2, e3⟩ := e
  simp only at p h2
  rw [p.1, p.2, h2] at m
  exact m
theorem SE.isx {t : Tab} {T : Tk} {tc : Expr} {q1 : Pos} (i : Nat) (XT : XTab c X.K t) (hz : Zc (.ref (c e.C)) (some dd) oe) (hfd : ∃ vs, oe.data = .fields vs) (hg : Gl X "isinstance") (hm : X.mg "isinstance" = none)
    (ht : ∃ v, PE (X.suite a ((a, oe) :: pn)) tc (tC v) ∧ ClsV v (tkV c T)) (hN : X.N[i]? = some x := by rfl) (hv : Vis X.env.scope x := by first | exact Or.inl rfl | exact Or.inr (Or.inl rfl) | exact Or.inr (Or.inr rfl)) (hdb : (x == ("__debug__" : Str)) = false := by decide)
    (hcd : (x == ("__classdict__" : Str)) = false := by decide) (h1 : starEach [.Name x p, tc] X.env = (false, eval (.Name x p) X.env) :: starEach [tc] X.env := by rfl) (h2 : starEach [tc] X.env = (false, eval tc X.env) :: starEach [] X.env := by rfl) (hpl : (backTo pos (starEach [tc] X.env)).any (·.1) = false := by rfl) :
    SE (c.exc a dd e) (X.suite a ((a, oe) :: pn)) W (.Call (.Name "isinstance" q1) [.Name x p, tc] [] pos) (eIsx t e i T) := by
  obtain ⟨v, pv, cv⟩ := ht
  cases hk : t.at' (.cls e.C) T with
  | none =>
    refine ⟨fun _ _ _ => False, ⟨fun _ _ _ _ _ _ z => z.elim⟩, fun g σ h τ H Q rs rh q => ?_⟩
    rw [eIsx_def, hk] at q
    split at q
    · rename_i z; cases z
    · exact q.elim
  | some b =>
    have m := Tab.at_mem hk
    have k1 := XT.kit _ m
    have C := XT.exc _ m _ rfl
    refine ⟨_, pe_callB (X := X.suite a ((a, oe) :: pn)) (call_isD C hz hfd) hg hm PyProof.Rows.boot_isinstance (pa_cons (pe_var (X := X.suite a ((a, oe) :: pn)) (i := i) hN hv hdb hcd) (pa_cons pv pa_nil h2) h1) (by decide) (by decide) h1 hpl, fun g σ h τ H Q rs rh q => ?_⟩
    rw [eIsx_def, hk] at q
    split at q
    · rename_i w e1 e2
      cases e2
      obtain ⟨u, e3, r⟩ := rs.get i .exn e1
      simp only [Rep] at r
      obtain ⟨a', d', e', z, rfl⟩ := r
      cases z
      obtain ⟨gs, hgs, rf⟩ := rh.ex a dd e rfl
      exact ⟨_, e3, v, _, b, gs, rfl, cv, rh.same _ _ hgs, k1, q.go rh repB⟩
    · exact q.elim
end
end Pm
namespace Pm
open PySem PySem.Spec L2 PyProof.Rows

/-! ### zip -/
section
variable {K : PySem.W.Frag} {a b : Addr} {n : Nat}
theorem walkZ : Walk (Itz K a b) n (fun H => ∃ us vs, SqL K H a us ∧ SqL K H b vs ∧ n = min us.length vs.length) (fun i H v H' => ∃ T x y, v = .ref T ∧ H T = none ∧ H' = upd H T (.tup [x, y]) ∧ (∀ us, SqL K H a us → us[i]? = some x) ∧ ∀ vs, SqL K H b vs → vs[i]? = some y) :=
  ⟨fun i H hi ⟨us, vs, q1, q2, e⟩ => ⟨us, vs, us[i]'(by omega), vs[i]'(by omega), q1, q2, by simp [show i < us.length by omega], by simp [show i < vs.length by omega]⟩, fun H ⟨us, vs, q1, q2, e⟩ => ⟨us, vs, q1, q2, by omega⟩, fun _ _ _ _ _ _ y => y⟩
theorem walkZT : Walk (RZ.ItzT K a b) n (fun H => ∃ us vs, SqT K H a us ∧ SqT K H b vs ∧ n = min us.length vs.length) (fun i H v H' => ∃ T x y, v = .ref T ∧ H T = none ∧ H' = upd H T (.tup [x, y]) ∧ (∀ us, SqT K H a us → us[i]? = some x) ∧ ∀ vs, SqT K H b vs → vs[i]? = some y) :=
  ⟨fun i H hi ⟨us, vs, q1, q2, e⟩ => ⟨us, vs, us[i]'(by omega), vs[i]'(by omega), q1, q2, by simp [show i < us.length by omega], by simp [show i < vs.length by omega]⟩, fun H ⟨us, vs, q1, q2, e⟩ => ⟨us, vs, q1, q2, by omega⟩, fun _ _ _ _ _ _ y => y⟩
end
def zipL : List PV → List PV → List PV
  | x :: xs, y :: ys => .tup [x, y] :: zipL xs ys
  | _, _ => []
theorem zipL_length : ∀ xs ys : List PV, (zipL xs ys).length = min xs.length ys.length
  | [], ys => by simp [zipL]
  | _ :: _, [] => by simp [zipL]
  | x :: xs, y :: ys => by simp [zipL, zipL_length xs ys]
theorem zipL_get : ∀ {xs ys : List PV} {i : Nat} {z : PV}, (zipL xs ys)[i]? = some z → ∃ x y, xs[i]? = some x ∧ ys[i]? = some y ∧ z = .tup [x, y]
  | [], _, _, _, h => by simp [zipL] at h
  | _ :: _, [], _, _, h => by simp [zipL] at h
  | x :: xs, y :: ys, 0, z, h => by
    have : PV.tup [x, y] = z := by simpa [zipL] using h
    exact ⟨x, y, rfl, rfl, this.symm⟩
  | x :: xs, y :: ys, i + 1, z, h => by
    obtain ⟨a, b, h1, h2, h3⟩ := zipL_get (xs := xs) (ys := ys) (i := i) (by simpa [zipL] using h)
    exact ⟨a, b, by simpa using h1, by simpa using h2, h3⟩
def srcZip : List PV → VH → Res Src
  | [.tup xs, .tup ys], h => .ok ⟨zipL xs ys, []⟩ h
  | [x, y], h => match lstOf x h, lstOf y h with
    | some xs, some ys => .ok ⟨zipL xs ys, ckOf x h ++ ckOf y h⟩ h
    | _, _ => .bad
  | _, _ => .bad
@[simp] theorem srcZip_tup (xs ys : List PV) (h : VH) : srcZip [.tup xs, .tup ys] h = .ok ⟨zipL xs ys, []⟩ h := rfl
@[simp] theorem srcZip_lst (xs ys : List PV) (h : VH) : srcZip [.lst xs, .lst ys] h = .ok ⟨zipL xs ys, []⟩ h := rfl
theorem srcZip_ok {x y : PV} {h : VH} {xs ys : List PV} (a : lstOf x h = some xs) (b : lstOf y h = some ys) : srcZip [x, y] h = .ok ⟨zipL xs ys, ckOf x h ++ ckOf y h⟩ h := by
  cases x with
  | tup z => cases a
  | _ => cases y with
    | tup z => cases b
    | non => cases b
    | exn => cases b
    | _ => first | (cases a; done) | simp only [srcZip, a, b]
theorem ckOk_app {a b : List (Nat × List PV)} {h : VH} : ckOk (a ++ b) h ↔ ckOk a h ∧ ckOk b h := by
  unfold ckOk
  constructor
  · exact fun q => ⟨fun p hp => q p (List.mem_append_left _ hp), fun p hp => q p (List.mem_append_right _ hp)⟩
  · rintro ⟨q1, q2⟩ p hp
    rcases List.mem_append.mp hp with z | z
    · exact q1 p z
    · exact q2 p z
section
variable {c : Ck} {X : Cx} {W : WX} {pos p : Pos} {e e2 tg : Expr} {es : List Expr} {m : EM} {ms : AM}
def iZp (ms : AM) : LS → VH → Res Src := fun σ h => (ms σ h).bind srcZip
@[simp] theorem iZp_def (σ : LS) (h : VH) : iZp ms σ h = (ms σ h).bind srcZip := (rfl)
theorem SI.zip {elts : List Expr} {kk : Nat} {tpos : Pos} (hg : Gl X "zip") (hm : X.mg "zip" = none) (ha : SA c X W [e, e2] ms) (hs : starEach [e, e2] X.env = (false, eval e X.env) :: starEach [e2] X.env := by rfl) (hpl : (backTo pos (starEach [e2] X.env)).any (·.1) = false := by rfl) :
    SI c X W (.Tuple elts kk tpos) (.Call (.Name "zip" p) [e, e2] [] pos) (iZp ms) := by
  obtain ⟨la, t, pa, s⟩ := ha
  refine ⟨_, RZ.pi_zipA hg hm pa hs hpl, fun g σ h τ H R rs rh q => s g σ h τ H _ rs rh ((Post.bind q).imp (fun us H1 ⟨g1, xs, h1, m1, q1⟩ => ?_) fun _ _ _ z => z)⟩
  unfold srcZip at q1
  split at q1
  · rename_i xs ys
    obtain ⟨u, v, rfl, rx, ry⟩ := m1.rep.two
    obtain ⟨a, us, rfl, s1, r1⟩ := tup_run rx m1.rel
    obtain ⟨b, vs, rfl, s2, r2⟩ := tup_run ry m1.rel
    refine ⟨a, b, us, vs, rfl, .inr ⟨.inl (.inl s1), .inl (.inl s2), q1.go m1.rel ⟨_, _, walkZT, fun g' h' H' l hn rh' _ => ?_, fun i z g' h' H' H2 l hn rh' _ hz u' hu => ?_⟩⟩⟩
    · obtain ⟨a', us', e, s', r'⟩ := tup_run (rx.mono0 l hn) rh'
      cases e
      obtain ⟨b', vs', e, s2', r2'⟩ := tup_run (ry.mono0 l hn) rh'
      cases e
      exact ⟨us', vs', .inl (.inl s'), .inl (.inl s2'), by rw [r'.length, r2'.length, zipL_length]⟩
    · obtain ⟨T, x, y, rfl, nT, rfl, hu1, hu2⟩ := hu
      obtain ⟨zx, zy, e1, e2, rfl⟩ := zipL_get hz
      obtain ⟨a', us', e, s', r'⟩ := tup_run (rx.mono0 l hn) rh'
      cases e
      obtain ⟨b', vs', e, s2', r2'⟩ := tup_run (ry.mono0 l hn) rh'
      cases e
      obtain ⟨w1, f1, q1⟩ := r'.get e1
      obtain ⟨w2, f2, q2⟩ := r2'.get e2
      have z1 := hu1 us' (.inl (.inl s'))
      have z2 := hu2 vs' (.inl (.inl s2'))
      rw [f1] at z1; cases z1
      rw [f2] at z2; cases z2
      obtain ⟨le, rh2⟩ := RelH.frz (o := .tup [x, y]) rh' nT
      refine ⟨_, le, rh2, ?_⟩
      simp only [Rep]
      exact ⟨T, _, rfl, upd_same, Reps.cons (q1.mono le (Nat.le_refl _)) (Reps.cons (q2.mono le (Nat.le_refl _)) Reps.nil)⟩
  · rename_i x0 y0 _
    obtain ⟨u, v, rfl, rx, ry⟩ := m1.rep.two
    split at q1
    · rename_i xs ys ex ey
      obtain ⟨a, us, rfl, s1, r1⟩ := lstOf_run rx m1.rel ex
      obtain ⟨b, vs, rfl, s2, r2⟩ := lstOf_run ry m1.rel ey
      have now : ∀ {g' h' H'}, g1.le0 h1.length g' → h1.length ≤ h'.length → RelH (kx c X) g' h' H' → ckOk (ckOf x0 h1 ++ ckOf y0 h1) h' → ∃ us' vs', SqL X.K H' a us' ∧ SqL X.K H' b vs' ∧ Reps (kx c X) g' h'.length xs us' ∧ Reps (kx c X) g' h'.length ys vs' := fun {g' h' H'} l hn rh' ck => by
        obtain ⟨c1, c2⟩ := ckOk_app.mp ck
        obtain ⟨e1, rx'⟩ := keptL rx m1.rel ex l hn rh' c1
        obtain ⟨e2, ry'⟩ := keptL ry m1.rel ey l hn rh' c2
        obtain ⟨a', us', e, s', r'⟩ := lstOf_run rx' rh' e1
        cases e
        obtain ⟨b', vs', e, s2', r2'⟩ := lstOf_run ry' rh' e2
        cases e
        exact ⟨us', vs', s', s2', r', r2'⟩
      refine ⟨a, b, us, vs, rfl, .inl ⟨s1, s2, q1.go m1.rel ⟨_, _, walkZ, fun g' h' H' l hn rh' ck => ?_, fun i z g' h' H' H2 l hn rh' ck hz u' hu => ?_⟩⟩⟩
      · obtain ⟨us', vs', s', s2', r', r2'⟩ := now l hn rh' ck
        exact ⟨us', vs', s', s2', by rw [r'.length, r2'.length, zipL_length]⟩
      · obtain ⟨T, x, y, rfl, nT, rfl, hu1, hu2⟩ := hu
        obtain ⟨zx, zy, e1, e2, rfl⟩ := zipL_get hz
        obtain ⟨us', vs', s', s2', r', r2'⟩ := now l hn rh' ck
        obtain ⟨w1, f1, q1⟩ := r'.get e1
        obtain ⟨w2, f2, q2⟩ := r2'.get e2
        have z1 := hu1 us' s'
        have z2 := hu2 vs' s2'
        rw [f1] at z1; cases z1
        rw [f2] at z2; cases z2
        obtain ⟨le, rh2⟩ := RelH.frz (o := .tup [x, y]) rh' nT
        refine ⟨_, le, rh2, ?_⟩
        simp only [Rep]
        exact ⟨T, _, rfl, upd_same, Reps.cons (q1.mono le (Nat.le_refl _)) (Reps.cons (q2.mono le (Nat.le_refl _)) Reps.nil)⟩
    · exact q1.elim
  · exact q1.elim

/-! ### a[i] op= v -/
def rGetL (K : PySem.W.Frag) : V → V → Hp → VK → Prop := fun x y H Q => ∃ p xs i v, x = .ref p ∧ y = .int i ∧ 0 ≤ i ∧ SqL K H p xs ∧ xs[i.toNat]? = some v ∧ Q v H
theorem get_listP : PGet X (rGetL X.K) := by
  intro pins s σ H x y u w Q I rx ry q0
  obtain ⟨p, xs, i, v, rfl, rfl, i0, hq, hv, q⟩ := q0
  cases rx
  obtain ⟨t, rfl⟩ := ry
  obtain ⟨its, r, pl, hz⟩ := I.list hq
  obtain ⟨w', ew, rw'⟩ := r.get hv
  have hl := r.length
  have hn := line63
  have hi : i.toNat < xs.length := (List.getElem?_eq_some_iff.mp hv).1
  exact wpAny_getItem_list pl.isList i0 (by omega) (by simpa using ew) ⟨v, H, I, rw', q⟩
/-- the item of a list's cell -/
def getC (x y : PV) (h : VH) : Res PV := match celL x h, y with
  | some (_, xs), .int k => if 0 ≤ k then (match xs[k.toNat]? with
    | some v => .ok v h
    | none => .bad) else .bad
  | _, _ => .bad
theorem getC_ok {i : Nat} {k : Int} {xs : List PV} {v : PV} {h : VH} (e : h[i]? = some (.lst xs)) (k0 : 0 ≤ k) (e1 : xs[k.toNat]? = some v) : getC (.ref i) (.int k) h = .ok v h := by
  simp only [getC, celL_ref e, if_pos k0, e1]
def sAugS (mo mi m : EM) (f : PV → PV → VH → Res PV) : SM := fun σ h => (mo σ h).then σ fun x h1 => (mi σ h1).then σ fun y h2 => (getC x y h2).then σ fun z h3 => (m σ h3).then σ fun v h4 => (f z v h4).then σ fun w h5 => (setP x y w h5).then σ fun _ h6 => .nx σ h6
@[simp] theorem sAugS_def (mo mi m : EM) (f : PV → PV → VH → Res PV) (σ : LS) (h : VH) : sAugS mo mi m f σ h = (mo σ h).then σ fun x h1 => (mi σ h1).then σ fun y h2 => (getC x y h2).then σ fun z h3 => (m σ h3).then σ fun v h4 => (f z v h4).then σ fun w h5 => (setP x y w h5).then σ fun _ h6 => .nx σ h6 := (rfl)
theorem S1.augS {o i : Expr} {mo mi : EM} {op : Operator} {r : R2} {f : PV → PV → VH → Res PV} {tpos : Pos} (ho : SE c X W o mo) (hi : SE c X W i mi) (hop : PIp X op r) (hs : OpS c X r f) (he : SE c X W e m)
    (ha : ∀ ov iv new, augStore i ov iv new = (do holding [new, ov, iv] (setItem ov iv new); release [new, ov, iv] []; pure .next) := by intros; rfl) : S1 c X W (.AugAssign (.Subscript o i tpos) op e pos) (sAugS mo mi m f) := by
  obtain ⟨to, po, so⟩ := ho
  obtain ⟨ti, pi, si⟩ := hi
  obtain ⟨te, pe, se⟩ := he
  refine ⟨_, ps_augS po pi get_listP pe hop set_list ha, fun g σ h τ H D rs rh q => ?_⟩
  refine so g σ h τ H _ rs rh ((PostS.then rs q).imp (fun ux H1 ⟨g1, x, h1, m1, q1⟩ => ?_) fun _ _ _ z => z)
  have rs1 := rs.mono m1.le m1.len
  refine si g1 σ h1 τ H1 _ rs1 m1.rel ((PostS.then rs1 q1).imp (fun uy H2 ⟨g2, y, h2, m2, q2⟩ => ?_) fun _ _ _ z => z)
  have rs2 := rs1.mono m2.le m2.len
  have rx2 := m1.rep.mono m2.le m2.len
  have q2' := PostS.then (R := Rep (kx c X)) rs2 q2
  unfold getC at q2'
  split at q2'
  · rename_i ci xs k e0
    split at q2'
    · rename_i k0
      split at q2'
      · rename_i v e1
        obtain ⟨rfl, rfl, e2, us, hu, r⟩ := celL_run rx2 m2.rel e0
        have ry := m2.rep
        simp only [Rep] at ry
        obtain ⟨w, ew, rw'⟩ := r.get e1
        refine ⟨_, us, k, w, rfl, ry, k0, .inl (.inl hu), ew, ?_⟩
        obtain ⟨g3, z, h3, m3, q3⟩ := q2' g2 w H2 (Gh.le.refl _ _) (Nat.le_refl _) m2.rel rw'
        have rs3 := rs2.mono m3.le m3.len
        refine se g3 σ h3 τ H2 _ rs3 m3.rel ((PostS.then rs3 q3).imp (fun uv H4 ⟨g4, v4, h4, m4, q4⟩ => ?_) fun _ _ _ z => z)
        have rs4 := rs3.mono m4.le m4.len
        refine hs g4 h4 H4 z v4 w uv _ _ (m3.rep.mono m4.le m4.len) m4.rep m4.rel ((PostS.then rs4 q4).imp (fun uw H5 ⟨g5, w5, h5, m5, q5⟩ => ?_) fun _ _ _ z => z)
        have rs5 := rs4.mono m5.le m5.len
        have rx5 := ((rx2.mono m3.le m3.len).mono m4.le m4.len).mono m5.le m5.len
        have ry5 := ((m2.rep.mono m3.le m3.len).mono m4.le m4.len).mono m5.le m5.len
        exact set_run (Q := fun _ H6 => D.nx τ H6) (E := at_ W τ) rx5 ry5 m5.rep m5.rel ((PostS.then (R := fun _ _ _ _ => True) rs5 q5).imp (fun _ H6 ⟨g6, _, h6, m6, q6⟩ => q6 g6 τ H6 (Gh.le.refl _ _) (Nat.le_refl _) m6.rel (rs5.mono m6.le m6.len)) fun _ _ _ z => z)
      · exact q2'.elim
    · exact q2'.elim
  · exact q2'.elim

/-! ### in, not in -/
/-- one of None, a bool, a number, a text -/
def flD : PV → Option PyData
  | .non => some .none
  | .bl b => some (.bool b)
  | .int i => some (.int i)
  | .str s => some (.str s)
  | _ => none
def flDs : List PV → Option (List PyData)
  | [] => some []
  | x :: xs => match flD x, flDs xs with
    | some d, some ds => some (d :: ds)
    | _, _ => none
@[simp] theorem flDs_ints : ∀ ns : List Int, flDs (ns.map PV.int) = some (ns.map PyData.int)
  | [] => rfl
  | n :: ns => by simp [flDs, flD, flDs_ints ns]
@[simp] theorem flDs_strs : ∀ ns : List Str, flDs (ns.map PV.str) = some (ns.map PyData.str)
  | [] => rfl
  | n :: ns => by simp [flDs, flD, flDs_strs ns]
theorem flDs_cons {x : PV} {xs : List PV} {d : PyData} {ds : List PyData} (a : flD x = some d) (b : flDs xs = some ds) : flDs (x :: xs) = some (d :: ds) := by simp [flDs, a, b]
def inP (neg : Bool) (x y : PV) (h : VH) : Res PV := match flD x, (seqOf y h).bind flDs with
  | some d, some ds => .ok (.bl (if neg then !(ds.any fun z => PyData.eqv z d) else ds.any fun z => PyData.eqv z d)) h
  | _, _ => match dat h x, dat h y with
    | some d, some (.list ds) => if d.canLay0 = true ∧ PyData.canLayAll0 ds = true then .ok (.bl (if neg then !(ds.any fun z => PyData.eqv z d) else ds.any fun z => PyData.eqv z d)) h else .bad
    | _, _ => .bad
theorem inP_flat {neg : Bool} {x y : PV} {h : VH} {d : PyData} {ys : List PV} {ds : List PyData} (a : flD x = some d) (b : seqOf y h = some ys) (e : flDs ys = some ds) : inP neg x y h = .ok (.bl (if neg then !(ds.any fun z => PyData.eqv z d) else ds.any fun z => PyData.eqv z d)) h := by
  simp only [inP, a, b, e, Option.bind_some]
theorem flD_run {K : Kc} {g : Gh} {n : Nat} {x : PV} {u : V} {d : PyData} (r : Rep K g n x u) (e : flD x = some d) : flatV u = true ∧ ∀ (y : PV) (v : V) (d' : PyData), Rep K g n y v → flD y = some d' → eqV v u = PyData.eqv d' d := by
  cases x with
  | non => cases e; simp only [Rep] at r; subst r; refine ⟨rfl, fun y v d' ry ey => ?_⟩; cases y <;> (first | (cases ey; simp only [Rep] at ry; subst ry; simp [eqV, PyData.eqv]) | cases ey)
  | bl b => cases e; simp only [Rep] at r; subst r; refine ⟨rfl, fun y v d' ry ey => ?_⟩; cases y <;> (first | (cases ey; simp only [Rep] at ry; subst ry; simp [eqV, PyData.eqv]) | cases ey)
  | int b => cases e; simp only [Rep] at r; subst r; refine ⟨rfl, fun y v d' ry ey => ?_⟩; cases y <;> (first | (cases ey; simp only [Rep] at ry; subst ry; simp [eqV, PyData.eqv]) | cases ey)
  | str b => cases e; simp only [Rep] at r; subst r; refine ⟨rfl, fun y v d' ry ey => ?_⟩; cases y <;> (first | (cases ey; simp only [Rep] at ry; subst ry; simp [eqV, PyData.eqv]) | cases ey)
  | _ => cases e
theorem flDs_run {K : Kc} {g : Gh} {n : Nat} {x : PV} {u : V} {d : PyData} (r : Rep K g n x u) (e : flD x = some d) : ∀ {ys : List PV} {vs : List V} {ds : List PyData}, Reps K g n ys vs → flDs ys = some ds → vs.all flatV = true ∧ inV u vs = ds.any fun z => PyData.eqv z d
  | [], _, _, ry, ey => by
    simp only [Reps] at ry
    subst ry
    cases ey
    exact ⟨rfl, rfl⟩
  | y :: ys, _, _, ry, ey => by
    simp only [Reps] at ry
    obtain ⟨v, vs, rfl, a, b⟩ := ry
    unfold flDs at ey
    split at ey
    · rename_i d1 ds1 e1 e2
      cases ey
      obtain ⟨h1, h2⟩ := flDs_run r e b e2
      have h3 := (flD_run r e).2 y v d1 a e1
      refine ⟨by simp [(flD_run a e1).1, h1], ?_⟩
      have h4 : inV u (v :: vs) = (eqV v u || inV u vs) := rfl
      rw [h4, h2, h3, List.any_cons]
    · cases ey
def rInAll (K : PySem.W.Frag) (neg : Bool) : R2 := fun x y H Q => rIn K neg x y H Q ∨ (if neg then rNotInD K else rInD K) x y H Q
theorem op_inAll (hu : X.A.units + 65 < cLine) : OpR X (compareOp .In) (rInAll X.K false) := op_in_seq.or (op_inD hu)
theorem op_notInAll (hu : X.A.units + 65 < cLine) : OpR X (compareOp .NotIn) (rInAll X.K true) := op_notIn_seq.or (op_notInD hu)
theorem inS (neg : Bool) : OpS c X (rInAll X.K neg) (inP neg) := fun g h H x y u v Q E rx ry rh p => by
  unfold inP at p
  split at p
  · rename_i d ds e1 e2
    obtain ⟨ys, e3, e4⟩ := Option.bind_eq_some_iff.mp e2
    obtain ⟨a, us, rfl, s, r⟩ := seqOf_run ry rh e3
    obtain ⟨f1, f2⟩ := flDs_run rx e1 r e4
    exact .inl ⟨a, us, rfl, s, (flD_run rx e1).1, f1, by rw [f2]; exact p.go rh repB⟩
  · split at p
    · rename_i d ds e1 e2
      split at p
      · rename_i z
        obtain ⟨a1, a2⟩ := toD_run rh 12 rx e1
        obtain ⟨b1, b2⟩ := toD_run rh 12 ry e2
        refine .inr ?_
        cases neg with
        | false => exact ⟨d, ds, a1, b1, shaped_of z.1 a2, shaped_of z.2 b2, p.go rh repB⟩
        | true => exact ⟨d, ds, a1, b1, shaped_of z.1 a2, shaped_of z.2 b2, p.go rh repB⟩
      · exact p.elim
    · exact p.elim
end
theorem un1 {k : Nat} {A : Around} (h : L2.Room k A) : A.units + 65 < cLine := by have := h.un; omega
end Pm
namespace Pm
open PySem PySem.Spec L2 PyProof.Rows
/-! ### comprehensions by place -/
section
variable {ck : List (Nat × List PV)} {ws : List Nat} {gm : GM} {mt : TM} {me : EM} {σ : LS}
theorem comp_at {xs : List PV} {h : VH} (hck : ckOk ck h) (p : Nat → Bool) (f : Nat → PV)
    (hx : ∀ i x, xs[i]? = some x → ∃ σ2, gm x (wipeL σ ws) h = .ok σ2 h ∧ mt σ2 h = .ok (p i) h ∧ (p i = true → me σ2 h = .ok (f i) h)) (hl : xs.length ≤ 16777216) :
    compL ck ws gm mt me σ xs [] h = .ok (((List.range xs.length).filter p).map f) h := by
  obtain ⟨acc, h', e, e1, e2⟩ := comp_go (ck := ck) (ws := ws) (gm := gm) (mt := mt) (me := me) (σ := σ) (xs := xs) (h := h) (fun i acc h' => h' = h ∧ acc = ((List.range i).filter p).map f) ⟨rfl, rfl⟩
    (fun i x acc h' hi ⟨q1, q2⟩ => by
      subst q1
      obtain ⟨σ2, a, b, c⟩ := hx i x hi
      refine ⟨hck, σ2, h', p i, h', a, b, ?_⟩
      rw [List.range_succ, List.filter_append, List.map_append, ← q2]
      cases z : p i with
      | false => simp [z]
      | true =>
        simp only [if_true]
        refine ⟨f i, h', c z, ?_, rfl, by simp [z]⟩
        have := (List.getElem?_eq_some_iff.mp hi).1
        have l := List.length_filter_le p (List.range i)
        rw [q2, List.length_map]
        simp only [List.length_range] at l; omega)
    (fun acc h' ⟨q1, q2⟩ => by subst q1; exact hck)
  rw [e, e1, e2]
theorem comp_ints {xs : List PV} {h : VH} (hck : ckOk ck h) {n : Nat} (hn : xs.length = n) (f : Nat → Int)
    (hx : ∀ i x, xs[i]? = some x → ∃ σ2, gm x (wipeL σ ws) h = .ok σ2 h ∧ mt σ2 h = .ok true h ∧ me σ2 h = .ok (.int (f i)) h) (hl : n ≤ 16777216) :
    compL ck ws gm mt me σ xs [] h = .ok (((List.range n).map f).map PV.int) h := by
  rw [comp_at hck (fun _ => true) (fun i => .int (f i)) (fun i x hi => by obtain ⟨s, a, b, c⟩ := hx i x hi; exact ⟨s, a, b, fun _ => c⟩) (by omega), List.filter_eq_self.mpr (by simp), hn, List.map_map]
  rfl
/-- over a range -/
theorem comp_rng {n : Nat} {h : VH} (hck : ckOk ck h) (f : Nat → Int) (hx : ∀ i : Nat, i < n → ∃ σ2, gm (.int (i : Int)) (wipeL σ ws) h = .ok σ2 h ∧ mt σ2 h = .ok true h ∧ me σ2 h = .ok (.int (f i)) h) (hl : n ≤ 16777216) :
    compL ck ws gm mt me σ (rngL 0 n) [] h = .ok (((List.range n).map f).map PV.int) h :=
  comp_ints hck (by simp [rngL]) f (fun i x hi => by
    have hi' : i < n := by have := (List.getElem?_eq_some_iff.mp hi).1; simpa [rngL] using this
    have : x = .int (i : Int) := by
      simp [rngL, hi'] at hi; exact hi.symm
    subst this
    exact hx i hi') hl
theorem comp_rngF {n : Nat} {h : VH} (hck : ckOk ck h) (p : Nat → Bool) (f : Nat → PV) (hx : ∀ i : Nat, i < n → ∃ σ2, gm (.int (i : Int)) (wipeL σ ws) h = .ok σ2 h ∧ mt σ2 h = .ok (p i) h ∧ (p i = true → me σ2 h = .ok (f i) h)) (hl : n ≤ 16777216) :
    compL ck ws gm mt me σ (rngL 0 n) [] h = .ok (((List.range n).filter p).map f) h := by
  have e : (rngL 0 n).length = n := by simp [rngL]
  rw [comp_at hck p f (fun i x hi => by
    have hi' : i < n := by have := (List.getElem?_eq_some_iff.mp hi).1; rwa [e] at this
    have : x = .int (i : Int) := by
      simp [rngL, hi'] at hi; exact hi.symm
    subst this
    exact hx i hi') (by omega), e]
end
theorem rng_get {n i : Nat} {x : PV} (h : (rngL 0 n)[i]? = some x) : i < n ∧ x = .int (i : Int) := by
  have hi' : i < n := by have := (List.getElem?_eq_some_iff.mp h).1; simpa [rngL] using this
  refine ⟨hi', ?_⟩
  simp [rngL, hi'] at h; exact h.symm
@[simp] theorem rng_len (n : Nat) : (rngL 0 n).length = n := by simp [rngL]
theorem srcRngN {n : Nat} (h : VH) (hn : n ≤ 1000000) : srcRng [.int (n : Int)] h = .ok ⟨rngL 0 n, []⟩ h := by rw [srcRng1 (by omega), Int.toNat_natCast]
theorem ints_get {L : List Int} {i : Nat} {x : PV} (h : (L.map PV.int)[i]? = some x) : i < L.length ∧ x = .int (L.getD i 0) := by
  have hi : i < L.length := by have := (List.getElem?_eq_some_iff.mp h).1; simpa using this
  refine ⟨hi, ?_⟩
  simp [hi] at h
  simp [List.getD_eq_getElem?_getD, hi, h]
theorem map_getD (L : List Int) : (List.range L.length).map (fun i => L.getD i 0) = L := by
  apply List.ext_getElem
  · simp
  · intro i h1 h2; simp [List.getD_eq_getElem?_getD, h2]
theorem ixN_tup {L : List Int} {i : Nat} (h : VH) (hi : i < L.length) : ixP (.tup (L.map PV.int)) (.int (i : Int)) h = .ok (.int (L.getD i 0)) h := ixP_tup (by omega) (by simp [hi])
theorem ixN_lst {L : List Int} {i : Nat} (h : VH) (hi : i < L.length) : ixP (.lst (L.map PV.int)) (.int (i : Int)) h = .ok (.int (L.getD i 0)) h := ixP_lst (by omega) (by simp [hi])
@[simp] theorem slP_lstL (xs : List PV) (lo hi : Option Int) (h : VH) : slP false (.lst xs) lo hi h = .ok (.lst (cutP xs lo hi)) h := (rfl)
theorem addP_ll {xs ys : List PV} (h : VH) (l : xs.length + ys.length ≤ 16777216) : addP false (.lst xs) (.lst ys) h = .ok (.lst (xs ++ ys)) h := by rw [addP_lst, if_pos l]; rfl
theorem addP_tt {xs ys : List PV} (h : VH) (l : xs.length + ys.length ≤ 16777216) : addP false (.tup xs) (.tup ys) h = .ok (.tup (xs ++ ys)) h := if_pos l
theorem pmT : type_of% (And.intro @iZp_def (And.intro @srcZip_lst (And.intro @srcZip_tup (And.intro @sAugS_def @slP_lstL)))) := ⟨@iZp_def, @srcZip_lst, @srcZip_tup, @sAugS_def, @slP_lstL⟩
end Pm
namespace Pm
open PySem PySem.Spec L2 PyProof.Rows
theorem enumL_get {xs : List PV} {i : Nat} {x : PV} (h : (enumL xs)[i]? = some x) : ∃ y, xs[i]? = some y ∧ x = .tup [.int (i : Int), y] := by
  unfold enumL at h
  rw [List.getElem?_mapIdx] at h
  cases e : xs[i]? with
  | none => rw [e] at h; cases h
  | some y => rw [e] at h; cases h; exact ⟨y, rfl, rfl⟩
theorem pmU : type_of% (And.intro @srcEnum_lst @Turn'_nx) := ⟨@srcEnum_lst, @Turn'_nx⟩
end Pm
namespace Pm
open PySem PySem.Spec L2 PyProof.Rows
/-! ### loops within a goal -/
section
variable {ck : List (Nat × List PV)} {gm : GM} {body rest : SM} {xs : List PV} {σ : LS} {h hh : VH} {X : Res PV}
theorem for_bind (I : Nat → LS → VH → Prop) (h0 : I 0 σ h)
    (step : ∀ i x σ h, xs[i]? = some x → I i σ h → ckOk ck h ∧ ∃ σ1 h1, gm x σ h = .ok σ1 h1 ∧ Turn' (I (i + 1)) (fun r => fin hh (r.bind rest) = X) (body σ1 h1))
    (hd : ∀ σ h, I xs.length σ h → ckOk ck h ∧ fin hh (rest σ h) = X) : fin hh ((forL ck gm body xs σ h).bind rest) = X :=
  for_go (R := fun r => fin hh (r.bind rest) = X) I h0 step hd
theorem for_turn {J : LS → VH → Prop} {R : SR → Prop} (I : Nat → LS → VH → Prop) (h0 : I 0 σ h)
    (step : ∀ i x σ h, xs[i]? = some x → I i σ h → ckOk ck h ∧ ∃ σ1 h1, gm x σ h = .ok σ1 h1 ∧ Turn' (I (i + 1)) (fun r => Turn' J R (r.bind rest)) (body σ1 h1))
    (hd : ∀ σ h, I xs.length σ h → ckOk ck h ∧ Turn' J R (rest σ h)) : Turn' J R ((forL ck gm body xs σ h).bind rest) :=
  for_go (R := fun r => Turn' J R (r.bind rest)) I h0 step hd
theorem for_last {J : LS → VH → Prop} {R : SR → Prop} (I : Nat → LS → VH → Prop) (h0 : I 0 σ h)
    (step : ∀ i x σ h, xs[i]? = some x → I i σ h → ckOk ck h ∧ ∃ σ1 h1, gm x σ h = .ok σ1 h1 ∧ Turn' (I (i + 1)) (fun r => Turn' J R r) (body σ1 h1))
    (hd : ∀ σ h, I xs.length σ h → ckOk ck h ∧ J σ h) : Turn' J R (forL ck gm body xs σ h) :=
  for_go (R := fun r => Turn' J R r) I h0 step hd
theorem for_fin (I : Nat → LS → VH → Prop) (h0 : I 0 σ h)
    (step : ∀ i x σ h, xs[i]? = some x → I i σ h → ckOk ck h ∧ ∃ σ1 h1, gm x σ h = .ok σ1 h1 ∧ Turn' (I (i + 1)) (fun r => fin hh r = X) (body σ1 h1))
    (hd : ∀ σ h, I xs.length σ h → ckOk ck h ∧ fin hh (.nx σ h) = X) : fin hh (forL ck gm body xs σ h) = X :=
  for_go (R := fun r => fin hh r = X) I h0 step hd
/-- a loop that always goes on -/
theorem for_ex (I : Nat → LS → VH → Prop) (h0 : I 0 σ h)
    (step : ∀ i x σ h, xs[i]? = some x → I i σ h → ckOk ck h ∧ ∃ σ1 h1, gm x σ h = .ok σ1 h1 ∧ Turn' (I (i + 1)) (fun _ => False) (body σ1 h1))
    (hd : ∀ σ h, I xs.length σ h → ckOk ck h) : ∃ σ' h', forL ck gm body xs σ h = .nx σ' h' ∧ I xs.length σ' h' := by
  refine for_go (R := fun r => ∃ σ' h', r = .nx σ' h' ∧ I xs.length σ' h') I h0 (fun i x σ h hx q => ?_) fun σ h q => ⟨hd σ h q, σ, h, rfl, q⟩
  obtain ⟨a, σ1, h1, b, c⟩ := step i x σ h hx q
  refine ⟨a, σ1, h1, b, ?_⟩
  generalize body σ1 h1 = r at c
  cases r with
  | nx σ h => exact c
  | ct σ h => exact c
  | _ => exact c.elim
end
theorem for_exE {ck : List (Nat × List PV)} {gm : GM} {body : SM} {xs : List PV} {σ : LS} {h : VH} {E : SR} (hE : forL ck gm body xs σ h = E) (I : Nat → LS → VH → Prop) (h0 : I 0 σ h)
    (step : ∀ i x σ h, xs[i]? = some x → I i σ h → ckOk ck h ∧ ∃ σ1 h1, gm x σ h = .ok σ1 h1 ∧ Turn' (I (i + 1)) (fun _ => False) (body σ1 h1))
    (hd : ∀ σ h, I xs.length σ h → ckOk ck h) : ∃ σ' h', E = .nx σ' h' ∧ I xs.length σ' h' := by
  obtain ⟨a, b, c, d⟩ := for_ex I h0 step hd
  exact ⟨a, b, hE.symm.trans c, d⟩
theorem comp_goE {ck : List (Nat × List PV)} {ws : List Nat} {gm : GM} {mt : TM} {me : EM} {σ : LS} {xs : List PV} {h : VH} {E : Res (List PV)} (hE : compL ck ws gm mt me σ xs [] h = E) (I : Nat → List PV → VH → Prop) (h0 : I 0 [] h) (step : ∀ i x acc h, xs[i]? = some x → I i acc h → ckOk ck h ∧ ∃ σ2 h2 b h3, gm x (wipeL σ ws) h = .ok σ2 h2 ∧ mt σ2 h2 = .ok b h3 ∧
      (if b = true then ∃ y h4, me σ2 h3 = .ok y h4 ∧ acc.length < 16777216 ∧ I (i + 1) (acc ++ [y]) h4 else I (i + 1) acc h3)) (hd : ∀ acc h, I xs.length acc h → ckOk ck h) :
    ∃ acc' h', E = .ok acc' h' ∧ I xs.length acc' h' := by
  obtain ⟨a, b, c, d⟩ := comp_go I h0 step hd
  exact ⟨a, b, hE.symm.trans c, d⟩
/-! ### plain values -/
/-- its kind -/
def kd : PV → Option String
  | .non => some "NoneType"
  | .bl _ => some "bool"
  | .int _ => some "int"
  | .str _ => some "str"
  | .tup _ => some "tuple"
  | .lst _ => some "list"
  | _ => none
def isIntV : PV → Bool
  | .int _ => true
  | _ => false
def isBelowV (v : PV) (b : Int) : Bool := match v with
  | .int i => decide (0 ≤ i ∧ i < b)
  | _ => false
def isNumV : PV → Bool
  | .int i => decide (0 ≤ i)
  | _ => false
def rowBelowV (v : PV) (n : Nat) (b : Int) : Bool := match v with
  | .tup xs => decide (xs.length = n) && xs.all fun x => isBelowV x b
  | _ => false
def kdRow : PV → Prop
  | .tup xs => ∀ x ∈ xs, (kd x).isSome
  | v => (kd v).isSome
theorem kdRow_kd {v : PV} (h : kdRow v) : (kd v).isSome := by
  cases v with
  | tup xs => rfl
  | _ => exact h
/-- data, wherever it is read; to so deep, of so much weight -/
structure Rp (n w : Nat) (v : PV) (d : PyData) : Prop where
  dat : ∀ h, toD h n v = some d
  lay : d.canLay0 = true
  sh : d.showable = true
  wt : wt d ≤ w
theorem Rp.int {n w : Nat} {i : Int} (b : i.natAbs < 2 ^ 100) (hw : 103 ≤ w) : Rp n w (.int i) (.int i) := by
  refine ⟨fun h => toD_int i, by simp [PyData.canLay0], ?_, ?_⟩
  · have : i.natAbs.log2 < 1920 := by
      by_cases z : i.natAbs = 0
      · rw [z]; decide
      · exact Nat.lt_trans ((Nat.log2_lt z).mpr b) (by omega)
    simpa [PyData.showable] using this
  · rw [wt_int]
    by_cases z : i.natAbs = 0
    · rw [z]; simp; omega
    · have := (Nat.log2_lt z).mpr b; omega
theorem Rp.bl {n w : Nat} {b : Bool} (hw : 5 ≤ w) : Rp n w (.bl b) (.bool b) := ⟨fun h => toD_bl b, by simp [PyData.canLay0], by simp [PyData.showable], by simpa using hw⟩
theorem Rp.non {n w : Nat} (hw : 4 ≤ w) : Rp n w .non .none := ⟨fun h => toD_non, by simp [PyData.canLay0], by simp [PyData.showable], by simpa using hw⟩
theorem Rp.str {n w : Nat} {s : Str} (ho : PyData.strOk s = true) (hw : 10 * s.length + 2 ≤ w) : Rp n w (.str s) (.str s) := ⟨fun h => toD_str s, by simp [PyData.canLay0, ho], by simp [PyData.showable], by rw [wt_str]; exact hw⟩
theorem Rp.up {n w w' : Nat} {v : PV} {d : PyData} (r : Rp n w v d) (h : w ≤ w') : Rp n w' v d := ⟨r.dat, r.lay, r.sh, Nat.le_trans r.wt h⟩
def Rps (n w : Nat) : List PV → List PyData → Prop
  | [], ds => ds = []
  | x :: xs, ds => ∃ d es, ds = d :: es ∧ Rp n w x d ∧ Rps n w xs es
section
variable {n w : Nat}
theorem Rps.nil : Rps n w [] [] := rfl
theorem Rps.cons {x : PV} {xs : List PV} {d : PyData} {ds : List PyData} (a : Rp n w x d) (b : Rps n w xs ds) : Rps n w (x :: xs) (d :: ds) := ⟨d, ds, rfl, a, b⟩
theorem Rps.one {x : PV} {d : PyData} (a : Rp n w x d) : Rps n w [x] [d] := .cons a .nil
theorem Rps.append : ∀ {xs ys : List PV} {ds es : List PyData}, Rps n w xs ds → Rps n w ys es → Rps n w (xs ++ ys) (ds ++ es)
  | [], _, _, _, h, k => by cases h; exact k
  | x :: xs, _, _, _, h, k => by
    obtain ⟨d, es, rfl, a, b⟩ := h
    exact ⟨d, _, rfl, a, b.append k⟩
theorem Rps.take : ∀ (k : Nat) {xs : List PV} {ds : List PyData}, Rps n w xs ds → Rps n w (xs.take k) (ds.take k)
  | 0, _, _, _ => rfl
  | k + 1, [], _, h => by cases h; rfl
  | k + 1, x :: xs, _, h => by obtain ⟨d, es, rfl, a, b⟩ := h; exact ⟨d, _, rfl, a, b.take k⟩
theorem Rps.drop : ∀ (k : Nat) {xs : List PV} {ds : List PyData}, Rps n w xs ds → Rps n w (xs.drop k) (ds.drop k)
  | 0, _, _, h => h
  | k + 1, [], _, h => by cases h; rfl
  | k + 1, x :: xs, _, h => by obtain ⟨d, es, rfl, a, b⟩ := h; exact b.drop k
theorem Rps.map {α : Type} {f : α → PV} {q : α → PyData} : ∀ {L : List α}, (∀ a ∈ L, Rp n w (f a) (q a)) → Rps n w (L.map f) (L.map q)
  | [], _ => rfl
  | a :: L, h => ⟨q a, L.map q, rfl, h a List.mem_cons_self, Rps.map fun b hb => h b (List.mem_cons_of_mem _ hb)⟩
theorem Rps.ints {L : List Int} (h : ∀ i ∈ L, i.natAbs < 2 ^ 100) (hw : 103 ≤ w) : Rps n w (L.map PV.int) (L.map PyData.int) := Rps.map fun i hi => Rp.int (h i hi) hw
theorem Rps.all : ∀ {xs : List PV} {ds : List PyData}, Rps n w xs ds → (∀ h, allD (toD h n) xs = some ds) ∧ PyData.canLayAll0 ds = true ∧ PyData.showableAll ds = true ∧ wtAll ds ≤ xs.length * (w + 2)
  | [], _, h => by cases h; exact ⟨fun h => rfl, rfl, rfl, by simp⟩
  | x :: xs, _, h => by
    obtain ⟨d, es, rfl, a, b⟩ := h
    obtain ⟨b1, b2, b3, b4⟩ := Rps.all b
    refine ⟨fun h => allD_cons (a.dat h) (b1 h), by simp [PyData.canLayAll0, a.lay, b2], by simp [PyData.showableAll, a.sh, b3], ?_⟩
    rw [wtAll_cons, List.length_cons, Nat.succ_mul]
    have := a.wt; omega
theorem Rp.tup {xs : List PV} {ds : List PyData} {W : Nat} (r : Rps n w xs ds) (h : xs.length * (w + 2) + 4 ≤ W) : Rp (n + 1) W (.tup xs) (.tuple ds) := by
  obtain ⟨a, b, c, d⟩ := r.all
  exact ⟨fun h => by rw [toD_tup, a h]; rfl, by simpa [PyData.canLay0] using b, by simpa [PyData.showable] using c, by rw [wt_tuple]; omega⟩
theorem Rp.lst {xs : List PV} {ds : List PyData} {W : Nat} (r : Rps n w xs ds) (h : xs.length * (w + 2) + 4 ≤ W) : Rp (n + 1) W (.lst xs) (.list ds) := by
  obtain ⟨a, b, c, d⟩ := r.all
  exact ⟨fun h => by rw [toD_lst, a h]; rfl, by simpa [PyData.canLay0] using b, by simpa [PyData.showable] using c, by rw [wt_list]; omega⟩
end
/-- what repr gives -/
theorem Rp.repr {w : Nat} {v : PV} {d : PyData} (r : Rp 12 w v d) (hw : w ≤ 16777216) (h : VH) : reprP v h = .ok (.str d.shown) h := reprP_ok (r.dat h) ⟨r.lay, r.sh, Nat.le_trans r.wt hw⟩
/-- a plain value: kinds, data, nothing that can be written -/
structure Pv (n w : Nat) (v : PV) : Prop where
  kd : (kd v).isSome
  row : kdRow v
  cl : ∀ m, closedV m v
  clean : cleanV v
  sh : ∃ d, Rp n w v d
section
variable {n w : Nat}
theorem Pv.int {i : Int} (b : i.natAbs < 2 ^ 100) (hw : 103 ≤ w) : Pv n w (.int i) := ⟨rfl, rfl, fun m => by simp, by simp, _, Rp.int b hw⟩
theorem Pv.bl {b : Bool} (hw : 5 ≤ w) : Pv n w (.bl b) := ⟨rfl, rfl, fun m => by simp, by simp, _, Rp.bl hw⟩
theorem Pv.non (hw : 4 ≤ w) : Pv n w .non := ⟨rfl, rfl, fun m => by simp, by simp, _, Rp.non hw⟩
theorem Pv.str {s : Str} (ho : PyData.strOk s = true) (hw : 10 * s.length + 2 ≤ w) : Pv n w (.str s) := ⟨rfl, rfl, fun m => by simp, by simp, _, Rp.str ho hw⟩
theorem Pv.up {w' : Nat} {v : PV} (p : Pv n w v) (h : w ≤ w') : Pv n w' v := ⟨p.kd, p.row, p.cl, p.clean, let ⟨d, r⟩ := p.sh; ⟨d, r.up h⟩⟩
theorem Pv.rps : ∀ {xs : List PV}, (∀ x ∈ xs, Pv n w x) → ∃ ds, Rps n w xs ds
  | [], _ => ⟨[], .nil⟩
  | x :: xs, h => by
    obtain ⟨d, r⟩ := (h x List.mem_cons_self).sh
    obtain ⟨ds, rs⟩ := Pv.rps fun y hy => h y (List.mem_cons_of_mem _ hy)
    exact ⟨d :: ds, .cons r rs⟩
theorem Pv.tup {xs : List PV} {W : Nat} (h : ∀ x ∈ xs, Pv n w x) (hl : xs.length * (w + 2) + 4 ≤ W) : Pv (n + 1) W (.tup xs) := by
  obtain ⟨ds, r⟩ := Pv.rps h
  exact ⟨rfl, fun x hx => (h x hx).kd, fun m => by rw [closedV_tup, closedVs_iff]; exact fun x hx => (h x hx).cl m, by rw [cleanV_tup, cleanVs_iff]; exact fun x hx => (h x hx).clean, _, Rp.tup r hl⟩
theorem Pv.lst {xs : List PV} {W : Nat} (h : ∀ x ∈ xs, Pv n w x) (hl : xs.length * (w + 2) + 4 ≤ W) : Pv (n + 1) W (.lst xs) := by
  obtain ⟨ds, r⟩ := Pv.rps h
  exact ⟨rfl, rfl, fun m => by rw [closedV_lst, closedVs_iff]; exact fun x hx => (h x hx).cl m, by rw [cleanV_lst, cleanVs_iff]; exact fun x hx => (h x hx).clean, _, Rp.lst r hl⟩
theorem Pv.ints {f : List Int} (h : ∀ i ∈ f, i.natAbs < 2 ^ 100) (hw : 103 ≤ w) : ∀ x ∈ f.map PV.int, Pv n w x := fun x hx => by
  obtain ⟨i, hi, rfl⟩ := List.mem_map.mp hx; exact Pv.int (h i hi) hw
end
theorem Pv.repr {w : Nat} {v : PV} (p : Pv 12 w v) (hw : w ≤ 16777216) : ∃ s, ∀ h, reprP v h = .ok (.str s) h := by
  obtain ⟨d, r⟩ := p.sh; exact ⟨_, r.repr hw⟩
theorem rowBelow_len {xs : List PV} {n : Nat} {b : Int} (h : xs.length ≠ n) : rowBelowV (.tup xs) n b = false := by simp [rowBelowV, h]
theorem rowBelow_mem {xs : List PV} {n : Nat} {b : Int} {x : PV} (h : x ∈ xs) (hx : isBelowV x b = false) : rowBelowV (.tup xs) n b = false := by
  have : (xs.all fun x => isBelowV x b) = false := by
    cases z : xs.all fun x => isBelowV x b with
    | false => rfl
    | true => rw [List.all_eq_true] at z; rw [z x h] at hx; cases hx
  rw [rowBelowV, this, Bool.and_false]
theorem pick_lst {xs : List PV} {t : Int} (h0 : 0 ≤ t) (h1 : t < (xs.length : Int)) : ∃ v ∈ xs, ∀ h, ixP (.lst xs) (.int t) h = .ok v h := by
  have : t.toNat < xs.length := by omega
  exact ⟨xs[t.toNat], List.getElem_mem this, fun h => ixP_lst h0 (by simp [this])⟩
theorem pick_ref {xs : List PV} {t : Int} {k : Nat} {h : VH} (e : h[k]? = some (.lst xs)) (h0 : 0 ≤ t) (h1 : t < (xs.length : Int)) : ∃ v ∈ xs, ixP (.ref k) (.int t) h = .ok v h := by
  have : t.toNat < xs.length := by omega
  exact ⟨xs[t.toNat], List.getElem_mem this, ixP_ref e h0 (by simp [this])⟩
theorem cut_to {L : List PV} {k : Nat} (h : k ≤ L.length) : cutP L none (some (k : Int)) = L.take k := by
  unfold cutP
  rw [HT.sIx_none, HT.sIx_nat, Nat.min_eq_left h]; simp
theorem cut_from {L : List PV} {k : Nat} (h : k ≤ L.length) : cutP L (some (k : Int)) none = L.drop k := by
  unfold cutP
  rw [HT.sIx_none, HT.sIx_nat, Nat.min_eq_left h]; exact List.take_of_length_le (by simp)
theorem cut_last {L : List PV} : cutP L none (some (-1)) = L.take (L.length - 1) := by
  unfold cutP
  rw [HT.sIx_none]
  have : HT.sIx L.length L.length (some (-1)) = L.length - 1 := by
    show (if (-1 : Int) < 0 then ((-1 : Int) + (L.length : Int)).toNat else min (-1 : Int).toNat L.length) = _
    rw [if_pos (by omega)]; omega
  rw [this]; simp
/-- a row with one member put in the place of another -/
def cutAt (f : List PV) (at' : Nat) (x : PV) : List PV := f.take at' ++ [x] ++ f.drop (at' + 1)
theorem cutAt_sub {f : List PV} {at' : Nat} {x y : PV} (hy : y ∈ cutAt f at' x) : y = x ∨ y ∈ f := by
  rcases List.mem_append.mp hy with q | q
  · rcases List.mem_append.mp q with q | q
    · exact .inr (List.mem_of_mem_take q)
    · exact .inl (List.mem_singleton.mp q)
  · exact .inr (List.mem_of_mem_drop q)
theorem cutAt_mem {f : List PV} {at' : Nat} {x : PV} : x ∈ cutAt f at' x := by simp [cutAt]
theorem cutAt_len (f : List PV) (at' : Nat) (x : PV) : (cutAt f at' x).length ≤ f.length + 1 := by simp [cutAt]; omega
/-! ### growing heaps -/
theorem lstOf_app {v : PV} {h K : VH} {xs : List PV} (e : lstOf v h = some xs) : lstOf v (h ++ K) = some xs := by
  cases v with
  | ref i =>
    simp only [lstOf] at e ⊢
    cases z : h[i]? with
    | none => rw [z] at e; cases e
    | some o =>
      have hi := (List.getElem?_eq_some_iff.mp z).1
      rw [List.getElem?_append_left hi, z]
      rw [z] at e; exact e
  | lst xs => exact e
  | scr xs => exact e
  | _ => cases e
theorem ckOf_app {v : PV} {h K : VH} {xs : List PV} (e : lstOf v h = some xs) : ckOk (ckOf v h) (h ++ K) := by
  cases v with
  | ref i =>
    simp only [lstOf] at e
    cases z : h[i]? with
    | none => rw [z] at e; cases e
    | some o =>
      have hi := (List.getElem?_eq_some_iff.mp z).1
      rw [z] at e
      cases o with
      | lst ys =>
        rw [ckOf_ref z]
        intro p hp
        rw [List.mem_singleton.mp hp, List.getElem?_append_left hi, z]
      | _ => cases e
  | _ => intro p hp; cases hp
theorem ckOf_eq {v : PV} {h K : VH} {xs : List PV} (e : lstOf v h = some xs) : ckOf v (h ++ K) = ckOf v h := by
  cases v with
  | ref i =>
    simp only [lstOf] at e
    cases z : h[i]? with
    | none => rw [z] at e; cases e
    | some o =>
      have hi := (List.getElem?_eq_some_iff.mp z).1
      unfold ckOf
      simp only [List.getElem?_append_left hi, z]
  | _ => rfl
theorem ckOf_same {v : PV} {h : VH} {xs : List PV} (e : lstOf v h = some xs) : ckOk (ckOf v h) h := by
  have := ckOf_app (K := []) e
  rwa [List.append_nil] at this
theorem srcEnum_at {v : PV} {h : VH} {xs : List PV} (e : lstOf v h = some xs) : srcEnum [v] h = .ok ⟨enumL xs, ckOf v h⟩ h := by
  cases v with
  | tup xs => cases e
  | _ => unfold srcEnum; simp only [e]
theorem seqOf_lstOf {v : PV} {h : VH} {xs : List PV} (e : lstOf v h = some xs) : seqOf v h = some xs := by
  cases v with
  | tup xs => cases e
  | _ => exact e
theorem ixN_at {v : PV} {h : VH} {L : List Int} {i : Nat} (e : lstOf v h = some (L.map PV.int)) (hi : i < L.length) : ixP v (.int (i : Int)) h = .ok (.int (L.getD i 0)) h :=
  ixP_seq (seqOf_lstOf e) (by rw [atI_nat]; simp [hi])
theorem tupleP_at {v : PV} {h : VH} {xs : List PV} (e : lstOf v h = some xs) : tupleP v h = .ok (.tup xs) h := by
  cases v with
  | tup xs => cases e
  | _ => unfold tupleP; simp only [e]
theorem at_end {α : Type} (H : List α) (a : α) : (H ++ [a])[H.length]? = some a := by simp
theorem set_end {α : Type} (H : List α) (a b : α) : (H ++ [a]).set H.length b = H ++ [b] := by simp
theorem append_end {H : VH} {xs : List PV} {y : PV} (z : xs.length < 16777216) : appendP (.ref H.length) [y] (H ++ [.lst xs]) = .ok .non (H ++ [.lst (xs ++ [y])]) := by
  rw [appendP_ok (at_end _ _) z, set_end]
theorem lstMt_end {H : VH} {xs : List PV} {ms : AM} {σ : LS} {f : PV → List PV → VH → Res PV} : lstMt (.ref H.length) ms σ (H ++ [.lst xs]) f = (ms σ (H ++ [.lst xs])).bind fun ys h1 => f (.ref H.length) ys h1 :=
  lstMt_ok (lstOf_ref (at_end _ _))
theorem listP_tupF (xs : List PV) (h : VH) : listP false (.tup xs) h = .ok (.lst xs) h := (rfl)
theorem listP_lstF (xs : List PV) (h : VH) : listP false (.lst xs) h = .ok (.lst xs) h := (rfl)
theorem listP_tupT (xs : List PV) (h : VH) : listP true (.tup xs) h = .ok (.ref h.length) (h ++ [.lst xs]) := (rfl)
theorem listP_lstT (xs : List PV) (h : VH) : listP true (.lst xs) h = .ok (.ref h.length) (h ++ [.lst xs]) := (rfl)
theorem slP_tupL (xs : List PV) (lo hi : Option Int) (h : VH) : slP false (.tup xs) lo hi h = .ok (.tup (cutP xs lo hi)) h := (rfl)
theorem pmV : type_of% (And.intro @srcEnum_tup (And.intro @listP_tupF (And.intro @listP_lstF (And.intro @listP_tupT (And.intro @listP_lstT @slP_tupL))))) := ⟨@srcEnum_tup, @listP_tupF, @listP_lstF, @listP_tupT, @listP_lstT, @slP_tupL⟩
end Pm
namespace Pm
open PySem PySem.Spec L2 PyProof.Rows
/-! ### texts that repr makes -/
def okS (s : Str) : Prop := ∀ c ∈ s.cps.toList, c < 0x110000
theorem okS_iff {s : Str} : PyData.strOk s = true ↔ okS s := by
  unfold PyData.strOk okS
  rw [← Array.all_toList, List.all_eq_true]
  simp
theorem okS_of (x : String) : okS (Str.ofString x) := by
  unfold okS
  rw [Str.ofString_eq_toList]
  intro c hc
  simp only [List.mem_map] at hc
  obtain ⟨ch, _, rfl⟩ := hc
  have := ch.valid
  rcases this with h | h
  · show ch.val.toNat < _; omega
  · show ch.val.toNat < _; omega
theorem okS_app {x y : Str} (a : okS x) (b : okS y) : okS (x ++ y) := by
  unfold okS at *
  show ∀ c ∈ (x.cps ++ y.cps).toList, c < _
  intro c hc
  rw [Array.toList_append] at hc
  rcases List.mem_append.mp hc with q | q
  · exact a c q
  · exact b c q
theorem okS_join {sep : Str} (a : okS sep) : ∀ {xs : List Str}, (∀ x ∈ xs, okS x) → okS (Str.join sep xs)
  | [], _ => by intro c hc; cases hc
  | [x], h => h x (by simp)
  | x :: y :: r, h => by
    show okS (x ++ sep ++ Str.join sep (y :: r))
    exact okS_app (okS_app (h x (by simp)) a) (okS_join a fun z hz => h z (List.mem_cons_of_mem _ hz))
theorem okS_from : ∀ {xs : List Str} (k : Nat) {acc : Str}, okS acc → (∀ x ∈ xs, okS x) → okS (textFrom k acc xs)
  | [], _, _, a, _ => a
  | x :: xs, k, acc, a, h => okS_from (k + 1) (okS_app (okS_app a (okS_of _)) (h x (by simp))) fun z hz => h z (List.mem_cons_of_mem _ hz)
theorem digit_lt (b n : Nat) (hb : b ≤ 16) : ∀ c ∈ Nat.toDigits b n, c.toNat < 0x110000 := fun c _ => by
  have := c.valid
  rcases this with h | h
  · show c.val.toNat < _; omega
  · show c.val.toNat < _; omega
theorem okS_char {q c : Nat} (hq : q < 0x110000) (hc : c < 0x110000) : ∀ d ∈ Builtin.Str.reprChar q c, d < 0x110000 := by
  have hex : ∀ w, ∀ d ∈ List.replicate (w - ((Nat.toDigits 16 c).map Char.toNat).length) 48 ++ (Nat.toDigits 16 c).map Char.toNat, d < 0x110000 := fun w d hd => by
    rcases List.mem_append.mp hd with q | q
    · rw [List.eq_of_mem_replicate q]; omega
    · obtain ⟨ch, h1, rfl⟩ := List.mem_map.mp q
      exact digit_lt 16 c (by omega) ch h1
  have two : ∀ (x y : Nat) (l : List Nat), x < 0x110000 → y < 0x110000 → (∀ d ∈ l, d < 0x110000) → ∀ d ∈ [x, y] ++ l, d < 0x110000 := fun x y l a b h d hd => by
    simp only [List.cons_append, List.nil_append, List.mem_cons] at hd
    rcases hd with rfl | rfl | hd
    · exact a
    · exact b
    · exact h d hd
  unfold Builtin.Str.reprChar
  dsimp only
  split
  · simpa using hc
  split
  · simp
  split
  · simp
  split
  · simp
  split
  · simpa using hc
  split
  · exact two _ _ _ (by omega) (by omega) (hex 2)
  split
  · exact two _ _ _ (by omega) (by omega) (hex 4)
  · exact two _ _ _ (by omega) (by omega) (hex 8)
theorem okS_repr {x : Str} (h : okS x) : okS (reprText x) := by
  have hq : reprQuote x < 0x110000 := by unfold reprQuote; split <;> omega
  have : ∀ (l : List Nat) (acc : Array Nat), (∀ c ∈ l, c < 0x110000) → (∀ c ∈ acc.toList, c < 0x110000) → ∀ c ∈ (l.foldl (fun out c => out ++ (Builtin.Str.reprChar (reprQuote x) c).toArray) acc).toList, c < 0x110000 := by
    intro l
    induction l with
    | nil => intro acc _ h; exact h
    | cons a l ih =>
      intro acc h1 h2
      refine ih _ (fun c hc => h1 c (List.mem_cons_of_mem _ hc)) fun c hc => ?_
      rw [Array.toList_append] at hc
      rcases List.mem_append.mp hc with q | q
      · exact h2 c q
      · exact okS_char hq (h1 a List.mem_cons_self) c q
  intro c hc
  unfold reprText at hc
  rw [Array.toList_push, ← Array.foldl_toList] at hc
  rcases List.mem_append.mp hc with q | q
  · exact this x.cps.toList #[reprQuote x] h (fun c hc => by simp at hc; rw [hc]; exact hq) c q
  · rw [List.mem_singleton.mp q]; exact hq
mutual
theorem okS_shown : ∀ d : PyData, d.canLay0 = true → d.showable = true → okS d.shown
  | .none, _, _ => okS_of _
  | .bool true, _, _ => okS_of _
  | .bool false, _, _ => okS_of _
  | .int i, _, _ => okS_of _
  | .str x, h, _ => okS_repr (okS_iff.mp (by simpa [PyData.canLay0] using h))
  | .list xs, h, s => okS_app (okS_from 0 (okS_of _) (okS_all xs (by simpa [PyData.canLay0] using h) (by simpa [PyData.showable] using s))) (okS_of _)
  | .tuple xs, h, s => okS_app (okS_app (okS_of _) (okS_join (okS_of _) (okS_all xs (by simpa [PyData.canLay0] using h) (by simpa [PyData.showable] using s)))) (okS_of _)
  | .dict _, h, _ => by simp [PyData.canLay0] at h
theorem okS_all : ∀ ds : List PyData, PyData.canLayAll0 ds = true → PyData.showableAll ds = true → ∀ x ∈ PyData.shownAll ds, okS x
  | [], _, _ => by intro x hx; cases hx
  | d :: ds, h, s => by
    simp only [PyData.canLayAll0, Bool.and_eq_true] at h
    simp only [PyData.showableAll, Bool.and_eq_true] at s
    intro x hx
    rcases List.mem_cons.mp (show x ∈ d.shown :: PyData.shownAll ds from hx) with rfl | q
    · exact okS_shown d h.1 s.1
    · exact okS_all ds h.2 s.2 x q
end
theorem Rp.ok {n w : Nat} {v : PV} {d : PyData} (r : Rp n w v d) : PyData.strOk d.shown = true := okS_iff.mpr (okS_shown d r.lay r.sh)
theorem Pv.rep {w : Nat} {v : PV} (p : Pv 12 w v) (hw : w ≤ 16777216) : ∃ s, PyData.strOk s = true ∧ ∀ h, reprP v h = .ok (.str s) h := by
  obtain ⟨d, r⟩ := p.sh; exact ⟨_, r.ok, r.repr hw⟩
theorem strOk_of (x : String) : PyData.strOk (Str.ofString x) = true := okS_iff.mpr (okS_of x)
/-! ### data compared -/
theorem ne_lst {xs ys : List PV} {h : VH} : neP (.lst xs) (.lst ys) h = eqD true (.lst xs) (.lst ys) h := (rfl)
theorem eq_lst {xs ys : List PV} {h : VH} : eqP (.lst xs) (.lst ys) h = eqD false (.lst xs) (.lst ys) h := (rfl)
theorem ne_tup {xs ys : List PV} {h : VH} : neP (.tup xs) (.tup ys) h = eqD true (.tup xs) (.tup ys) h := (rfl)
theorem eq_tup {xs ys : List PV} {h : VH} : eqP (.tup xs) (.tup ys) h = eqD false (.tup xs) (.tup ys) h := (rfl)
theorem eqD_same {neg : Bool} {v : PV} {h : VH} {d : PyData} (e : dat h v = some d) (l : d.canLay0 = true) : eqD neg v v h = .ok (.bl (!neg)) h := by
  rw [eqD_ok e e l l, SeqAt.eqv_refl d l]
  cases neg <;> rfl
/-- what a refusal tells is what is due -/
theorem told_ne {x s : Str} (hx : PyData.strOk x = true) (hs : PyData.strOk s = true) (h : VH) : neP (.lst [.tup [.str x, .str s]]) (.lst [.tup [.str x, .str s]]) h = .ok (.bl false) h := by
  rw [ne_lst]
  have e : dat h (.lst [.tup [.str x, .str s]]) = some (.list [.tuple [.str x, .str s]]) := by simp [allD]
  exact eqD_same e (by simp [PyData.canLay0, PyData.canLayAll0, hx, hs])
/-! ### classes asked -/
theorem kit_ref {K : PySem.W.Frag} {D C : Addr} {b : Bool} (h2 : PySem.W.isClsIn K C = true) (h3 : PySem.W.typeIn K (.ref C) = some (.type "type")) (h4 : PySem.W.subIn K (.ref D) (.ref C) = some b) (hs : PySem.W.subIn K (.ref C) (.ref C) = some true) : PySem.W.kitOne K (.ref D) (.ref C) = some b := by
  unfold PySem.W.kitOne
  by_cases q : ((Value.ref D == Value.ref C) = true)
  · rw [if_pos q]
    have e : D = C := Value.ref.inj (beq_iff_eq.mp q)
    subst e
    exact hs.symm.trans h4
  · rw [if_neg q]
    unfold PySem.W.kitCls
    have h2' : (PySem.W.clsIn K C).isSome = true := h2
    have e2 : ((PySem.W.clsIn K C).isSome && PySem.W.typeIn K (.ref C) == some (.type "type")) = true := by rw [h2', h3] <;> rfl
    dsimp only
    rw [if_pos e2]; exact h4
theorem kit_ty {K : PySem.W.Frag} {D : Addr} {T : String} {b : Bool} (hm : PySem.W.kitMeta T = true) (h4 : PySem.W.subIn K (.ref D) (.type T) = some b) : PySem.W.kitOne K (.ref D) (.type T) = some b := by
  unfold PySem.W.kitOne
  rw [if_neg (by intro z; cases beq_iff_eq.mp z)]
  unfold PySem.W.kitCls
  dsimp only
  rw [if_pos hm]; exact h4
end Pm
namespace Pm
open PySem PySem.Spec L2 PyProof.Rows
/-! ### two or three names at once -/
section
variable {c : Ck} {X : Cx} {W : WX} {pos : Pos} {e : Expr} {es : List Expr} {m : EM} {ms : AM}
/-- a, b = x, y with plain local names: stored from the right -/
def sPar (i j : Nat) (ms : AM) : SM := fun σ h => (ms σ h).then σ fun vs h1 => match vs with
  | [v, w] => .nx ((σ.set i (some v)).set j (some w)) h1
  | _ => .bad
@[simp] theorem sPar_def (i j : Nat) (σ : LS) (h : VH) : sPar i j ms σ h = (ms σ h).then σ fun vs h1 => match vs with
  | [v, w] => .nx ((σ.set i (some v)).set j (some w)) h1
  | _ => .bad := (rfl)
theorem S1.par {i j : Nat} {x y : Str} {a b : Expr} {px py pt : Pos} {kt k2 pt2} (hc : X.calm = true) (hN : X.N.Nodup) (hi : X.N[i]? = some x) (hj : X.N[j]? = some y) (hij : i ≠ j)
    (hx : X.env.scope.names.lookup x = some .local) (hy : X.env.scope.names.lookup y = some .local) (ha : SA c X W [a, b] ms)
    (hw : swappedStores [.Tuple [.Name x px, .Name y py] kt pt] (.Tuple [a, b] k2 pt2) X.env = pure (some [x, y]))
    (hs : swapsWithSole [.Tuple [.Name x px, .Name y py] kt pt] (.Tuple [a, b] k2 pt2) pos.line X.env = pure false := by rfl) :
    S1 c X W (.Assign [.Tuple [.Name x px, .Name y py] kt pt] (.Tuple [a, b] k2 pt2) pos) (sPar i j ms) := by
  obtain ⟨la, t, pa, s⟩ := ha
  refine ⟨_, ps_par hc hN hi hj hij hx hy pa hw hs, fun g σ h τ H D rs rh p => ?_⟩
  refine s g σ h τ H _ rs rh ((PostS.then rs p).imp (fun us H1 ⟨g1, xs, h1, m1, p1⟩ => ?_) fun _ _ _ z => z)
  split at p1
  · rename_i v w
    obtain ⟨u, u', rfl, rv, rw'⟩ := m1.rep.two
    refine ⟨u, u', rfl, ?_⟩
    have rs1 := rs.mono m1.le m1.len
    exact p1 g1 _ H1 (Gh.le.refl _ _) (Nat.le_refl _) m1.rel ((rs1.set i rv).set j rw')
  · exact p1.elim
/-- three names at once -/
def sPar3 (i j l : Nat) (ms : AM) : SM := fun σ h => (ms σ h).then σ fun vs h1 => match vs with
  | [u, v, w] => .nx (((σ.set i (some u)).set j (some v)).set l (some w)) h1
  | _ => .bad
theorem Reps.three {K : Kc} {g : Gh} {n : Nat} {x y z : PV} {us : List V} (r : Reps K g n [x, y, z] us) : ∃ u v w, us = [u, v, w] ∧ Rep K g n x u ∧ Rep K g n y v ∧ Rep K g n z w := by
  simp only [Reps] at r
  obtain ⟨u, us', rfl, a, v, us2, rfl, b, w, us3, rfl, d, e⟩ := r
  subst e
  exact ⟨u, v, w, rfl, a, b, d⟩
theorem S1.par3 {i j l : Nat} {x y z : Str} {a b d : Expr} {px py pz pt : Pos} {kt k2 pt2} (hc : X.calm = true) (hN : X.N.Nodup) (hi : X.N[i]? = some x) (hj : X.N[j]? = some y) (hl : X.N[l]? = some z) (hij : i ≠ j) (hil : i ≠ l) (hjl : j ≠ l)
    (hx : X.env.scope.names.lookup x = some .local) (hy : X.env.scope.names.lookup y = some .local) (hz : X.env.scope.names.lookup z = some .local) (ha : SA c X W [a, b, d] ms)
    (hw : swappedStores [.Tuple [.Name x px, .Name y py, .Name z pz] kt pt] (.Tuple [a, b, d] k2 pt2) X.env = pure (some [x, y, z]))
    (hs : swapsWithSole [.Tuple [.Name x px, .Name y py, .Name z pz] kt pt] (.Tuple [a, b, d] k2 pt2) pos.line X.env = pure false := by rfl) :
    S1 c X W (.Assign [.Tuple [.Name x px, .Name y py, .Name z pz] kt pt] (.Tuple [a, b, d] k2 pt2) pos) (sPar3 i j l ms) := by
  obtain ⟨la, t, pa, s⟩ := ha
  refine ⟨_, ps_par3 hc hN hi hj hl hij hil hjl hx hy hz pa hw hs, fun g σ h τ H D rs rh p => ?_⟩
  refine s g σ h τ H _ rs rh ((PostS.then rs p).imp (fun us H1 ⟨g1, xs, h1, m1, p1⟩ => ?_) fun _ _ _ z => z)
  split at p1
  · rename_i a1 a2 a3
    obtain ⟨u, u', u'', rfl, rv, rw', rx⟩ := m1.rep.three
    refine ⟨u, u', u'', rfl, ?_⟩
    have rs1 := rs.mono m1.le m1.len
    exact p1 g1 _ H1 (Gh.le.refl _ _) (Nat.le_refl _) m1.rel (((rs1.set i rv).set j rw').set l rx)
  · exact p1.elim
/-! ### attributes stored -/
def putFP (f : Str) (v : PV) : List (Str × PV) → List (Str × PV)
  | [] => [(f, v)]
  | (g, x) :: r => if g = f then (g, v) :: r else (g, x) :: putFP f v r
theorem putFP_rep {K : Kc} {g : Gh} {n : Nat} {f : Str} {v : PV} {u : V} (rv : Rep K g n v u) : ∀ {fs : List (Str × PV)} {gs : List (Str × V)}, RepF K g n fs gs → RepF K g n (putFP f v fs) (putF f u gs)
  | [], _, h => by simp only [RepF] at h; subst h; exact RepF.cons rv RepF.nil
  | (k, x) :: fs, _, h => by
    simp only [RepF] at h
    obtain ⟨w, r, rfl, a, b⟩ := h
    by_cases q : k = f
    · simp only [putFP, putF, q, if_true]; exact RepF.cons rv b
    · simp only [putFP, putF, q, if_false]; exact RepF.cons a (putFP_rep rv b)
/-- an instance in a cell -/
def celI (x : PV) (h : VH) : Option (Nat × Nat × List (Str × PV)) := match x with
  | .ref i => match h[i]? with
    | some (.ins C fs) => some (i, C, fs)
    | _ => none
  | _ => none
theorem celI_ref {i C : Nat} {fs : List (Str × PV)} {h : VH} (e : h[i]? = some (.ins C fs)) : celI (.ref i) h = some (i, C, fs) := by simp [celI, e]
theorem celI_run {K : Kc} {g : Gh} {h : VH} {H : Hp} {x : PV} {u : V} {i C : Nat} {fs : List (Str × PV)} (rx : Rep K g h.length x u) (rh : RelH K g h H) (e : celI x h = some (i, C, fs)) :
    x = .ref i ∧ u = .ref (g.ρ i) ∧ h[i]? = some (.ins C fs) ∧ ∃ dx gs, H (g.ρ i) = some (.ins (K.cls C) dx gs) ∧ RepF K g h.length fs gs := by
  cases x with
  | ref j =>
    simp only [Rep] at rx
    have e : (match h[j]? with
      | some (PO.ins C fs) => some (j, C, fs)
      | _ => none) = some (i, C, fs) := e
    split at e
    · rename_i D fs' e1
      obtain ⟨u', hu', ru⟩ := rh.cell j _ e1 (by intro z; cases z)
      obtain ⟨dx, gs, rfl, r⟩ := ru
      have rx2 := rx.2
      cases e
      exact ⟨rfl, rx2, e1, dx, gs, hu', r⟩
    · cases e
  | _ => cases e
def sFldM (C : Nat) (f : Str) (mo mv : EM) : SM := fun σ h => (mv σ h).then σ fun y h1 => (mo σ h1).then σ fun x h2 => match celI x h2 with
  | some (i, D, fs) => if D = C ∧ fs.length < 1000 then .nx σ (h2.set i (.ins C (putFP f y fs))) else .bad
  | none => .bad
theorem sFldM_def (C : Nat) (f : Str) (mo mv : EM) (σ : LS) (h : VH) : sFldM C f mo mv σ h = (mv σ h).then σ fun y h1 => (mo σ h1).then σ fun x h2 => match celI x h2 with
  | some (i, D, fs) => if D = C ∧ fs.length < 1000 then .nx σ (h2.set i (.ins C (putFP f y fs))) else .bad
  | none => .bad := (rfl)
theorem S1.fld {Cn : Nat} {fl : Str} {o value : Expr} {mo mv : EM} {pos' : Pos} (ho : SE c X W o mo) (hv : SE c X W value mv) (cl : Cls X.K (c Cn)) (na : NoAttr X.K (c Cn) fl) (hs : swapsWith value (some (.Attribute o fl pos')) pos.line X.env = pure false := by rfl) :
    S1 c X W (.Assign [.Attribute o fl pos'] value pos) (sFldM Cn fl mo mv) := by
  obtain ⟨t, p, s⟩ := ho
  obtain ⟨tv, pv, sv⟩ := hv
  refine ⟨_, ps_fld p pv hs, fun g σ h τ H D rs rh q => ?_⟩
  refine sv g σ h τ H _ rs rh ((PostS.then rs q).imp (fun u H1 ⟨g1, y, h1, m1, q1⟩ => ?_) fun _ _ _ z => z)
  have rs1 := rs.mono m1.le m1.len
  refine s g1 σ h1 τ H1 _ rs1 m1.rel ((PostS.then rs1 q1).imp (fun v H2 ⟨g2, x, h2, m2, q2⟩ => ?_) fun _ _ _ z => z)
  split at q2
  · rename_i i D' fs e0
    split at q2
    · rename_i z
      obtain ⟨rfl, hl⟩ := z
      obtain ⟨rfl, rfl, e2, dx, gs, hu, r⟩ := celI_run m2.rep m2.rel e0
      refine ⟨_, _, dx, gs, rfl, hu, cl, na, by rw [r.length]; exact hl, ?_⟩
      have rs2 := rs1.mono m2.le m2.len
      have ry := m1.rep.mono m2.le m2.len
      refine q2 g2 τ _ (Gh.le.refl _ _) (by simp) (m2.rel.setc e2 (by intro z; cases z) ⟨dx, _, rfl, putFP_rep ry r⟩) ?_
      rw [List.length_set]; exact rs2
    · exact q2.elim
  · exact q2.elim
/-- e.f += value, of numbers -/
def sFldAugM (C : Nat) (f : Str) (mo mv : EM) : SM := fun σ h => (mo σ h).then σ fun x h1 => match celI x h1 with
  | some (i, D, fs) => if D = C then (match fs.lookup f with
    | some v => (mv σ h1).then σ fun y h2 => match celI (.ref i) h2 with
      | some (_, D2, fs2) => if D2 = C ∧ fs2.length < 1000 then (match v, y with
        | .int a, .int b => .nx σ (h2.set i (.ins C (putFP f (.int (a + b)) fs2)))
        | _, _ => .bad) else .bad
      | none => .bad
    | none => .bad) else .bad
  | none => .bad
theorem S1.fldAug {Cn : Nat} {fl : Str} {o value : Expr} {mo mv : EM} {tpos : Pos} (ho : SE c X W o mo) (hv : SE c X W value mv) (cl : Cls X.K (c Cn)) (na : NoAttr X.K (c Cn) fl) : S1 c X W (.AugAssign (.Attribute o fl tpos) .Add value pos) (sFldAugM Cn fl mo mv) := by
  obtain ⟨t, p, s⟩ := ho
  obtain ⟨tv, pv, sv⟩ := hv
  refine ⟨_, ps_fldaug p pv in_add, fun g σ h τ H D rs rh q => ?_⟩
  refine s g σ h τ H _ rs rh ((PostS.then rs q).imp (fun u H1 ⟨g1, x, h1, m1, q1⟩ => ?_) fun _ _ _ z => z)
  have rs1 := rs.mono m1.le m1.len
  split at q1
  · rename_i i D' fs e0
    split at q1
    · rename_i z
      subst z
      split at q1
      · rename_i v ev
        obtain ⟨rfl, rfl, e2, dx, gs, hu, r⟩ := celI_run m1.rep m1.rel e0
        obtain ⟨w, e4, r4⟩ := (RepF.lookup (f := fl) r).1 v ev
        refine ⟨_, _, dx, gs, w, rfl, hu, cl, na, e4, ?_⟩
        refine sv g1 σ h1 τ H1 _ rs1 m1.rel ((PostS.then rs1 q1).imp (fun u2 H2 ⟨g2, y, h2, m2, q2⟩ => ?_) fun _ _ _ z => z)
        split at q2
        · rename_i i2 D2 fs2 e5
          split at q2
          · rename_i z
            obtain ⟨rfl, hl⟩ := z
            have rw4 := r4.mono m2.le m2.len
            have ry := m2.rep
            have rx : Rep (kx c X) g2 h2.length (.ref i) (.ref (g1.ρ i)) := m1.rep.mono m2.le m2.len
            obtain ⟨ei, eu, e6, dx2, gs2, hu2, r2⟩ := celI_run rx m2.rel e5
            cases ei
            have hi1 := m1.rep
            simp only [Rep] at hi1
            have eu' : g2.ρ i = g1.ρ i := m2.le.rho i hi1.1
            split at q2
            · rename_i a b _
              simp only [Rep] at rw4 ry
              refine ⟨a, b, rw4, ry, dx2, gs2, by rw [← eu']; exact hu2, by rw [r2.length]; exact hl, ?_⟩
              rw [← eu']
              have rs2 := rs1.mono m2.le m2.len
              refine q2 g2 τ _ (Gh.le.refl _ _) (by simp) (m2.rel.setc e6 (by intro z; cases z) ⟨dx2, _, rfl, putFP_rep repI r2⟩) ?_
              rw [List.length_set]; exact rs2
            · exact q2.elim
          · exact q2.elim
        · exact q2.elim
      · exact q1.elim
    · exact q1.elim
  · exact q1.elim
/-- in, not in a tuple of numbers of the module -/
def eInC (neg : Bool) (m : EM) (ns : List Int) : EM := fun σ h => (m σ h).bind fun x h1 => match flD x with
  | some d => .ok (.bl (if neg then !((ns.map PyData.int).any fun z => PyData.eqv z d) else (ns.map PyData.int).any fun z => PyData.eqv z d)) h1
  | none => .bad
theorem eInC_def (neg : Bool) (m : EM) (ns : List Int) (σ : LS) (h : VH) : eInC neg m ns σ h = (m σ h).bind fun x h1 => match flD x with
  | some d => .ok (.bl (if neg then !((ns.map PyData.int).any fun z => PyData.eqv z d) else (ns.map PyData.int).any fun z => PyData.eqv z d)) h1
  | none => .bad := (rfl)
/-- a tuple of numbers that the module holds -/
def KTup (K : PySem.W.Frag) (u : Value) (ns : List Int) : Prop := ∃ a, u = .ref a ∧ ∀ H, SqT K H a (ns.map V.int)
theorem ktup_mk {K : PySem.W.Frag} {a : Addr} {d : Option Addr} {its : Array Value} {n : Nat} {sl : Array (Option Value)} {ns : List Int} (l : K.lookup a = some ⟨.type "tuple", d, .seq its n, sl⟩) (hs : its.size ≤ sizeLine) (hv : Vals (ns.map V.int) its.toList) : KTup K (.ref a) ns :=
  ⟨a, rfl, fun H => .inr ⟨_, its, n, l, rfl, rfl, hs, hv⟩⟩
theorem inC_run {neg : Bool} {ns : List Int} {x : PV} {u : V} {g : Gh} {h : VH} {H : Hp} {Q : VK} {E : XK} {a : Addr} (rx : Rep (kx c X) g h.length x u) (rh : RelH (kx c X) g h H) (hs : ∀ H, SqT X.K H a (ns.map V.int))
    (p : Post (kx c X) (Rep (kx c X)) g h.length Q E (match flD x with
  | some d => .ok (.bl (if neg then !((ns.map PyData.int).any fun z => PyData.eqv z d) else (ns.map PyData.int).any fun z => PyData.eqv z d)) h
  | none => .bad)) : rIn X.K neg u (.ref a) H Q := by
  split at p
  · rename_i d e
    obtain ⟨f1, f2⟩ := flDs_run (K := kx c X) (g := g) (n := h.length) rx e (Reps.ints ns) (flDs_ints ns)
    exact ⟨a, _, rfl, .inr (hs H), (flD_run rx e).1, f1, by rw [f2]; exact p.go rh repB⟩
  · exact p.elim
theorem SE.inC (neg : Bool) {op : CmpOp} {x : Str} {a : Expr} {ma : EM} {p1 : Pos} {ns : List Int} (ho : OpR X (compareOp op) (rIn X.K neg)) (ha : SE c X W a ma) (hg : Gl X x) (hk : ∃ u, X.mg x = some u ∧ KTup X.K u ns) (hb : behindInMarks op (.Name x p1) = false)
    (hd : (x == ("__debug__" : Str)) = false := by decide) : SE c X W (.Compare a [op] [.Name x p1] pos) (eInC neg ma ns) := by
  obtain ⟨t, pa, s⟩ := ha
  obtain ⟨_, hm, b, rfl, hs⟩ := hk
  refine ⟨_, pe_cmpR ho pa (pe_glob hg hm (v := .ref b) rfl hd) hb, fun g σ h τ H Q rs rh q => ?_⟩
  exact s g σ h τ H _ rs rh ((Post.bind q).imp (fun u H1 ⟨g1, x, h1, m1, q1⟩ => inC_run m1.rep m1.rel hs q1) fun _ _ _ z => z)
theorem ST.inC (neg : Bool) {op : CmpOp} {x : Str} {a : Expr} {ma : EM} {p1 : Pos} {ns : List Int} (ho : OpR X (compareOp op) (rIn X.K neg)) (ha : SE c X W a ma) (hg : Gl X x) (hk : ∃ u, X.mg x = some u ∧ KTup X.K u ns) (hb : behindInMarks op (.Name x p1) = false)
    (hd : (x == ("__debug__" : Str)) = false := by decide) : ST c X W (.Compare a [op] [.Name x p1] pos) (tVal (eInC neg ma ns)) := by
  obtain ⟨t, pa, s⟩ := ha
  obtain ⟨_, hm, b, rfl, hs⟩ := hk
  refine ⟨_, pt_cmpR ho pa (pe_glob hg hm (v := .ref b) rfl hd) hb, fun g σ h τ H Q rs rh q => ?_⟩
  have q' := (Post.bind (R := Rep (kx c X)) q).imp (Q2 := fun u H' => ∃ k, u = .bl k ∧ Q k H') (E2 := at_ W τ) (fun u H1 ⟨g1, x, h1, m1, p1⟩ => asB_run m1.rep m1.rel p1) fun _ _ _ z => z
  exact s g σ h τ H _ rs rh ((Post.bind q').imp (fun u H1 ⟨g1, x, h1, m1, q1⟩ => inC_run m1.rep m1.rel hs q1) fun _ _ _ z => z)
end
/-- a method's facts -/
structure Fm (K : PySem.W.Frag) (x qual : Str) (st : Stmt) (ps : List Str) (f : Addr) (fd : FuncData) : Prop where
  F : Fun K x qual st f fd
  b : Binds K fd ps []
end Pm
namespace Pm
open PySem PySem.Spec L2 PyProof.Rows
section
variable {c : Ck} {X : Cx} {W : WX} {pos : Pos} {o : Expr} {f : Str} {k : Nat} {g : Addr} {fd : FuncData} {ps : List Str} {m : List PV → VH → Res PV} {mo : EM}
/-! ### properties -/
def propP (C : Nat) (m : List PV → VH → Res PV) (x : PV) (h : VH) : Res PV := match insAt x h with
  | some (D, _) => if D = C then (match m [x] h with
    | .exc _ _ => .bad
    | r => r) else .bad
  | none => .bad
def eProp (C : Nat) (m : List PV → VH → Res PV) (mo : EM) : EM := fun σ h => (mo σ h).bind (propP C m)
theorem eProp_def (C : Nat) (m : List PV → VH → Res PV) (mo : EM) (σ : LS) (h : VH) : eProp C m mo σ h = (mo σ h).bind (propP C m) := (rfl)
theorem propP_ok {C : Nat} {m : List PV → VH → Res PV} {x v : PV} {h h' : VH} {fs : List (Str × PV)} (e : insAt x h = some (C, fs)) (em : m [x] h = .ok v h') : propP C m x h = .ok v h' := by
  unfold propP; rw [e]; simp only [if_true, em]
theorem getpropG {C a dx p : Addr} {fs : List (Str × V)} {sp : Sp} {E : XK} {b : Bool} {pins : List (Addr × Obj)} {τ : L2.St} {H : Hp} {s : Shared} {Q : VK} (I : Inv X pins τ H s) (ea : H a = some (.ins C dx fs)) (cl : Cls X.K C) (hp : PropOf X.K C f p g)
    (F : FnG X.prog X.w X.K X.mg X.base k g fd ps sp) (room : Room (k + 1) X.A) (gd : X.A.guards = some []) (bi : Binds X.K fd ps []) (px : ∀ cls d H', ¬ E cls d H') (h : sp [.ref a] H Q E) :
    wpAny (model X.prog X.w) X.A (getAttr (.ref a) f b) (EP X pins τ Q) X.xe s := by
  obtain ⟨mA, O, _, _, _, _⟩ := ins_get I.hok ea
  obtain ⟨od, J, _⟩ := O.look
  obtain ⟨rest, hrec⟩ := hp.rec_
  have I1 := I.tok (s.toks + 1)
  have hc : (PySem.W.clsIn X.K C).isSome = true := by
    obtain ⟨cd, hc, _⟩ := PySem.W.any_some cl.hd
    rw [hc]
    rfl
  have ln : ([Value.ref a] : List Value).length = ps.length := F.len _ _ _ _ h
  have bd := bi { s with toks := s.toks + 1 } [Value.ref a] I1.kIn (by rw [List.append_nil]; exact ln)
  rw [List.append_nil] at bd
  refine PySem.W.get_bind I.kIn J (PySem.W.plainGet_of (cl.get f)).1 (PySem.W.findObj_data hc hp.at_ hp.get hp.tak) (PySem.W.plainGet_of (cl.get f)).2 (wpAny_call (PySem.W.prop_get (s := { s with toks := s.toks + 1 }) I.kIn hrec ?_))
  refine codeAny_mono (F.run X.A.in1 X.stack { s with toks := s.toks + 1 } H ⟨[.ref a], []⟩ [.ref a] [.ref a] Q E room.in1 gd I1.env0.in1 bd (.cons rfl .nil) h) fun res s' hq => ?_
  cases res with
  | error er =>
    obtain ⟨_, _, _, _, _, _, _, _, _, _, _, _, e⟩ := hq
    exact (px _ _ _ e).elim
  | ok fl =>
    cases fl with
    | ret u =>
      obtain ⟨v, H', I3, rv, q3⟩ := I1.after hq
      show wpAny _ _ (handedOut u) _ _ _
      rw [PySem.W.handedOut_of (handed_of rv)]
      exact wpAny_pure ⟨v, H', I3, rv, q3⟩
    | next => exact hq.elim
    | brk => exact hq.elim
    | cont => exact hq.elim
def tPropS (C : Addr) (sp : Sp) (ta : TE) : TE := fun τ H Q => ta τ H fun x H1 => ∃ a dx fs, x = .ref a ∧ H1 a = some (.ins C dx fs) ∧ sp [.ref a] H1 Q (fun _ _ _ => False)
theorem pe_propG {C p : Addr} {sp : Sp} {ta : TE} (he : PE X o ta) (cl : Cls X.K C) (hp : PropOf X.K C f p g) (F : FnG X.prog X.w X.K X.mg X.base k g fd ps sp) (room : Room (k + 1) X.A) (gd : X.A.guards = some []) (bi : Binds X.K fd ps [])
    (hab : attributeBase o f X.env (eval o X.env) = eval o X.env) : PE X (.Attribute o f pos) (tPropS C sp ta) := by
  refine ⟨fun pins s τ H Q I h => ?_⟩
  refine attr_of hab (thn (he.run pins s τ H _ I h) fun u s1 ⟨x, H1, I1, rx, a, dx, fs, ex, ea, q⟩ => ?_)
  subst ex
  obtain rfl : u = Value.ref a := rx
  exact getpropG I1 ea cl hp F room gd bi (fun _ _ _ z => z) q
theorem SE.prop {Cn : Nat} (ho : SE c X W o mo) (cl : Cls X.K (c Cn)) (hp : ∃ p, PropOf X.K (c Cn) f p g) (F : FnS c X.prog X.w X.K X.mg X.base k g fd ps m) (hr : Room (k + 1) X.A) (hgd : X.A.guards = some []) (hb : Binds X.K fd ps []) (hn : 1 = ps.length := by rfl)
    (hab : attributeBase o f X.env (eval o X.env) = eval o X.env := by rfl) : SE c X W (.Attribute o f pos) (eProp Cn m mo) := by
  obtain ⟨to, po, so⟩ := ho
  obtain ⟨p, hp⟩ := hp
  refine ⟨_, pe_propG po cl hp F.ok hr hgd hb hab, fun g σ h τ H Q rs rh q => ?_⟩
  refine so g σ h τ H _ rs rh ((Post.bind q).imp (fun u H1 ⟨g1, x, h1, m1, q1⟩ => ?_) fun _ _ _ z => z)
  unfold propP at q1
  split at q1
  · rename_i D fs e1
    split at q1
    · rename_i e2
      subst e2
      obtain ⟨a, dx, gs, rfl, hu, r⟩ := insAt_run m1.rep m1.rel e1
      refine ⟨a, dx, gs, rfl, hu, g1, h1, [x], hn, Reps.cons m1.rep Reps.nil, m1.rel, ?_⟩
      split at q1
      · exact q1.elim
      · rename_i r hx
        generalize m [x] h1 = r at q1 hx
        cases r with
        | ok v h' => exact q1
        | exc e h' => exact (hx e h' rfl).elim
        | bad => exact q1.elim
    · exact q1.elim
  · exact q1.elim
/-! ### how often a number stands in a list -/
def countP (x : PV) (ys : List PV) (h : VH) : Res PV := match (lstOf x h).bind intsOf, ys with
  | some ns, [.int k] => .ok (.int (ns.count k : Nat)) h
  | _, _ => .bad
theorem countP_ok {x : PV} {ns : List Int} {k : Int} {h : VH} (e : (lstOf x h).bind intsOf = some ns) : countP x [.int k] h = .ok (.int (ns.count k : Nat)) h := by
  unfold countP; rw [e]
theorem countS : MtS c X (rCntI X.K) countP := fun g h H x ys u vs Q E rx ry rh p => by
  unfold countP at p
  split at p
  · rename_i ns k e
    obtain ⟨xs, e1, e2⟩ := Option.bind_eq_some_iff.mp e
    obtain ⟨a, us, rfl, s, r⟩ := lstOf_run rx rh e1
    rw [intsOf_eq e2] at r
    have ei := r.ints_eq
    subst ei
    obtain ⟨v, rfl, rv⟩ := ry.one
    cases rv
    exact ⟨a, ns, k, rfl, rfl, s, p.go rh repI⟩
  · exact p.elim
end
end Pm
namespace Pm
open PySem PySem.Spec L2 PyProof.Rows
/-! ### zip over any two iterators -/
open PySem.Sem (wp)
/-- an iterator at i: St k h says that it stands at place k of xs in the heap h -/
structure Itr (prog : Program) (w : World) (i l : Addr) (xs : Array Value) (St : Nat → Heap → Prop) : Prop where
  keep : ∀ {k : Nat} {h h' : Heap}, St k h → (∀ o, h.get? i = some o → h'.get? i = some o) → (∀ o, h.get? l = some o → h'.get? l = some o) → St k h'
  there : ∀ {k : Nat} {h : Heap}, St k h → ∃ o, h.get? i = some o
  item : ∀ {A : Around} {E : Value → Shared → Prop} {s : Shared} {k : Nat} {x : Value} {Q : Value → Shared → Prop}, St k s.heap → xs[k]? = some x → (∀ h', St (k + 1) h' → Heap.SameBut i s.heap h' → Q x { s with heap := h' }) →
    wpAny (model prog w) A (Builtin.SmallTypes.nextOf (.ref i)) Q E s
  done : ∀ {A : Around} {E : Value → Shared → Prop} {s : Shared} {k : Nat} {Q : Value → Shared → Prop}, A.handled = none → St k s.heap → xs[k]? = none → (∀ h' e, Heap.ExtBut i s.heap h' → (∃ o, h'.get? e = some o ∧ o.cls = .type "StopIteration") → E (.ref e) { s with heap := h' }) →
    wpAny (model prog w) A (Builtin.SmallTypes.nextOf (.ref i)) Q E s
theorem itr_tuple {prog : Program} {w : World} {i l : Addr} {xs : Array Value} (ne : l ≠ i) : Itr prog w i l xs (fun k h => h.IsTupleIter i l k ∧ h.IsTuple l xs) where
  keep := fun ⟨a, b⟩ ki kl => ⟨a.at ki, by obtain ⟨o, e, r⟩ := b; exact ⟨o, kl o e, r⟩⟩
  there := fun ⟨⟨o, e, _⟩, _⟩ => ⟨o, e⟩
  item := fun ⟨a, b⟩ hx hQ => RZ.nextOf_tuple_item a b hx fun h' c sb => hQ h' ⟨c, b.extBut sb.extBut ne⟩ sb
  done := fun hh ⟨a, b⟩ hx hE => RZ.nextOf_tuple_end hh a b hx hE
theorem itr_list {prog : Program} {w : World} {i l : Addr} {xs : Array Value} (ne : l ≠ i) : Itr prog w i l xs (fun k h => h.IsListIter i l k ∧ h.IsList l xs) where
  keep := fun ⟨a, b⟩ ki kl => ⟨a.at ki, by obtain ⟨o, e, r⟩ := b; exact ⟨o, kl o e, r⟩⟩
  there := fun ⟨⟨o, e, _⟩, _⟩ => ⟨o, e⟩
  item := fun ⟨a, b⟩ hx hQ => wpAny_nextOf_list_item a b hx fun h' c sb => hQ h' ⟨c, b.extBut sb.extBut ne⟩ sb
  done := fun hh ⟨a, b⟩ hx hE => wpAny_nextOf_list_end hh a b hx hE

section
variable {prog : Program} {w : World} {A : Around} {E : Value → Shared → Prop} {s : Shared}
/-- what a turn of zip touches -/
def Touch (z TO i1 i2 : Addr) (h h' : Heap) : Prop := ∀ c o, c ≠ z → c ≠ TO → c ≠ i1 → c ≠ i2 → h.get? c = some o → h'.get? c = some o
theorem touch_one {z TO i1 i2 c0 : Addr} {h h' : Heap} (hc : c0 = z ∨ c0 = TO ∨ c0 = i1 ∨ c0 = i2) (sb : Heap.ExtBut c0 h h') : Touch z TO i1 i2 h h' := fun c o c1 c2 c3 c4 e => sb c o (by
  rcases hc with q | q | q | q <;> rw [q] <;> assumption) e
theorem Touch.trans {z TO i1 i2 : Addr} {h h' h'' : Heap} (a : Touch z TO i1 i2 h h') (b : Touch z TO i1 i2 h' h'') : Touch z TO i1 i2 h h'' := fun c o c1 c2 c3 c4 e => b c o c1 c2 c3 c4 (a c o c1 c2 c3 c4 e)
variable {z TI TO i1 i2 l1 l2 : Addr} {k1 k2 : Nat} {xs ys : Array Value} {S1 S2 : Nat → Heap → Prop}
theorem Itr.over {i l c0 : Addr} {St : Nat → Heap → Prop} {zs : Array Value} (J : Itr prog w i l zs St) {k : Nat} {h h' : Heap} (st : St k h) (sb : Heap.ExtBut c0 h h') (a : i ≠ c0) (b : l ≠ c0) : St k h' :=
  J.keep st (fun o e => sb i o a e) fun o e => sb l o b e
theorem zipG_item {a b x y : Value} {Q : Value → Shared → Prop} (D : ZipApart z TI TO i1 i2 l1 l2) (J1 : Itr prog w i1 l1 xs S1) (J2 : Itr prog w i2 l2 ys S2)
    (hz : IsZip s.heap z TI TO .none) (hTI : IsPair s.heap TI (.ref i1) (.ref i2)) (hTO : IsPair s.heap TO a b) (h1 : S1 k1 s.heap) (h2 : S2 k2 s.heap) (hx : xs[k1]? = some x) (hy : ys[k2]? = some y)
    (hQ : ∀ h', IsZip h' z TI TO (rawInt s.heap.objs.size) → IsPair h' TO x y → S1 (k1 + 1) h' → S2 (k2 + 1) h' → IsPair h' s.heap.objs.size x y → h'.objs.size = s.heap.objs.size + 1 → Touch z TO i1 i2 s.heap h' → Q (.ref s.heap.objs.size) { s with heap := h' }) :
    wpAny (model prog w) A (Builtin.«zip.__next__» ⟨[.ref z], []⟩) (fun fin s' => ∃ v, fin = .done (.ret v) ∧ Q v s') E s := by
  have tz := @touch_one z TO i1 i2 z
  have tO := @touch_one z TO i1 i2 TO
  have t1 := @touch_one z TO i1 i2 i1
  have t2 := @touch_one z TO i1 i2 i2
  show wpAny _ _ (field (.ref z) 2 >>= _) _ _ _
  refine wpAny_bind (wpAny_field hz rfl (x := .bool false) rfl ?_)
  show wpAny _ _ (field (.ref z) 3 >>= _) _ _ _
  refine wpAny_bind (wpAny_field hz rfl (x := .ref TI) rfl (wpAny_bind (wpAny_seqItems hTI rfl ?_)))
  show wpAny _ _ (Builtin.SmallTypes.ownedTupleIsFree (.ref z) >>= _) _ _ _
  refine wpAny_bind ?_
  unfold Builtin.SmallTypes.ownedTupleIsFree
  refine wpAny_bind (wpAny_field hz rfl (x := .none) rfl (wpAny_pure ?_))
  simp only [if_true]
  refine wpAny_bind (wpAny_rule (wpAny_bind (wpAny_field hz rfl (x := .ref TO) rfl (wpAny_bind (wpAny_setField_rec hz (by simp) fun hA zA sA => ?_)))))
  replace zA : IsZip hA z TI TO .ellipsis := zA
  have uA : Touch z TO i1 i2 s.heap hA := tz (.inl rfl) sA.extBut
  refine wpAny_bind ?_
  simp only [List.zipIdx_cons, List.zipIdx_nil, List.forIn_cons, List.forIn_nil]
  -- the first iterator
  refine wpAny_bind (wpAny_bind (wpAny_onRaise ?_))
  show wpAny _ _ (Builtin.SmallTypes.nextOf (.ref i1) >>= _) _ _ _
  refine wpAny_bind (J1.item (J1.over h1 sA.extBut D.i1z D.l1z) hx fun hB sB1 sB => wpAny_pure ?_)
  have uB := uA.trans (t1 (.inr (.inr (.inl rfl))) sB.extBut)
  have pB : IsPair hB TO a b := sB.extBut _ _ D.TOi1 (sA.extBut _ _ D.TOz hTO)
  refine wpAny_bind (wpAny_seqItems pB rfl (wpAny_bind (wpAny_updateSeq_pair pB fun hC pC sC => ?_)))
  replace pC : IsPair hC TO x b := pC
  have uC := uB.trans (tO (.inr (.inl rfl)) sC.extBut)
  refine wpAny_bind (wpAny_letGo (wpAny_pure ?_))
  -- the second one
  refine wpAny_bind (wpAny_bind (wpAny_onRaise ?_))
  show wpAny _ _ (Builtin.SmallTypes.nextOf (.ref i2) >>= _) _ _ _
  have s2C : S2 k2 hC := J2.over (J2.over (J2.over h2 sA.extBut D.i2z D.l2z) sB.extBut D.i12.symm D.l2i1) sC.extBut D.TOi2.symm D.l2TO
  refine wpAny_bind (J2.item s2C hy fun hD sD2 sD => wpAny_pure ?_)
  have uD := uC.trans (t2 (.inr (.inr (.inr rfl))) sD.extBut)
  have pD : IsPair hD TO x b := sD.extBut _ _ D.TOi2 pC
  refine wpAny_bind (wpAny_seqItems pD rfl (wpAny_bind (wpAny_updateSeq_pair pD fun hE pE sE => ?_)))
  replace pE : IsPair hE TO x y := pE
  have uE := uD.trans (tO (.inr (.inl rfl)) sE.extBut)
  refine wpAny_bind (wpAny_letGo (wpAny_pure (wpAny_pure ?_)))
  -- the pair
  refine wpAny_bind (wpAny_seqItems pE rfl (wpAny_bind (wpAny_newTuple ?_)))
  have size : hE.objs.size = s.heap.objs.size := by rw [sE.1, sD.1, sC.1, sB.1, sA.1]
  have zE : IsZip hE z TI TO .ellipsis := sE.extBut _ _ D.TOz.symm (sD.extBut _ _ D.i2z.symm (sC.extBut _ _ D.TOz.symm (sB.extBut _ _ D.i1z.symm zA)))
  have s1E : S1 (k1 + 1) hE := J1.over (J1.over (J1.over sB1 sC.extBut D.TOi1.symm D.l1TO) sD.extBut D.i12 D.l1i2) sE.extBut D.TOi1.symm D.l1TO
  have s2E : S2 (k2 + 1) hE := J2.over sD2 sE.extBut D.TOi2.symm D.l2TO
  have zlt : z < hE.objs.size := Heap.lt_size zE
  show wpAny _ _ (Builtin.SmallTypes.ownedTupleHandOut (.ref z) (.ref hE.objs.size) >>= _) _ _ _
  refine wpAny_bind ?_
  unfold Builtin.SmallTypes.ownedTupleHandOut
  have zF : IsZip (hE.push { cls := .type "tuple", data := .seq #[x, y] }) z TI TO .ellipsis := Heap.get?_push_of_some _ zE
  refine wpAny_bind (wpAny_setField_rec zF (by simp) fun hG zG sG => ?_)
  replace zG : IsZip hG z TI TO (rawInt hE.objs.size) := zG
  refine wpAny_setField_rec zG (by simp) fun hH zH sH => ?_
  replace zH : IsZip hH z TI TO (rawInt hE.objs.size) := zH
  have up : Heap.ExtBut z hE hH := fun c o c1 e => sH.extBut _ _ c1 (sG.extBut _ _ c1 (Heap.get?_push_of_some _ e))
  have pH : IsPair hH hE.objs.size x y := sH.extBut _ _ (Nat.ne_of_gt zlt) (sG.extBut _ _ (Nat.ne_of_gt zlt) (Heap.get?_push_size _ rfl))
  have zsz : hH.objs.size = hE.objs.size + 1 := by rw [sH.1, sG.1, Heap.size_push]
  rw [size] at zH pH zsz
  refine wpAny_pure ⟨_, rfl, ?_⟩
  show Q (.ref hE.objs.size) _
  rw [size]
  exact hQ hH zH (up _ _ D.TOz pE) (J1.over s1E up D.i1z D.l1z) (J2.over s2E up D.i2z D.l2z) pH zsz (uE.trans (tz (.inl rfl) up))
theorem zipG_end {a b : Value} {Q : Fin → Shared → Prop} (hh : A.handled = none) (D : ZipApart z TI TO i1 i2 l1 l2) (J1 : Itr prog w i1 l1 xs S1) (J2 : Itr prog w i2 l2 ys S2)
    (hz : IsZip s.heap z TI TO .none) (hTI : IsPair s.heap TI (.ref i1) (.ref i2)) (hTO : IsPair s.heap TO a b) (h1 : S1 k1 s.heap) (h2 : S2 k2 s.heap) (hend : xs[k1]? = none ∨ ys[k2]? = none)
    (hE : ∀ h' e, Touch z TO i1 i2 s.heap h' → (∃ o, h'.get? e = some o ∧ o.cls = .type "StopIteration") → E (.ref e) { s with heap := h' }) :
    wpAny (model prog w) A (Builtin.«zip.__next__» ⟨[.ref z], []⟩) Q E s := by
  have tz := @touch_one z TO i1 i2 z
  have tO := @touch_one z TO i1 i2 TO
  have t1 := @touch_one z TO i1 i2 i1
  have t2 := @touch_one z TO i1 i2 i2
  show wpAny _ _ (field (.ref z) 2 >>= _) _ _ _
  refine wpAny_bind (wpAny_field hz rfl (x := .bool false) rfl ?_)
  show wpAny _ _ (field (.ref z) 3 >>= _) _ _ _
  refine wpAny_bind (wpAny_field hz rfl (x := .ref TI) rfl (wpAny_bind (wpAny_seqItems hTI rfl ?_)))
  show wpAny _ _ (Builtin.SmallTypes.ownedTupleIsFree (.ref z) >>= _) _ _ _
  refine wpAny_bind ?_
  unfold Builtin.SmallTypes.ownedTupleIsFree
  refine wpAny_bind (wpAny_field hz rfl (x := .none) rfl (wpAny_pure ?_))
  simp only [if_true]
  refine wpAny_bind (wpAny_rule (wpAny_bind (wpAny_field hz rfl (x := .ref TO) rfl (wpAny_bind (wpAny_setField_rec hz (by simp) fun hA zA sA => ?_)))))
  replace zA : IsZip hA z TI TO .ellipsis := zA
  have uA : Touch z TO i1 i2 s.heap hA := tz (.inl rfl) sA.extBut
  refine wpAny_bind ?_
  simp only [List.zipIdx_cons, List.zipIdx_nil, List.forIn_cons, List.forIn_nil]
  refine wpAny_bind (wpAny_bind (wpAny_onRaise ?_))
  show wpAny _ _ (Builtin.SmallTypes.nextOf (.ref i1) >>= _) _ _ _
  -- what is set back when an iterator is at its end
  have back : ∀ {h2 : Heap} {e : Addr}, Touch z TO i1 i2 s.heap h2 → IsZip h2 z TI TO .ellipsis → (∃ o, h2.get? e = some o ∧ o.cls = .type "StopIteration") → ∀ {h3 : Heap}, Heap.SameBut z h2 h3 → E (.ref e) { s with heap := h3 } := fun {h2 e} t iz he {h3} sb => by
    obtain ⟨o, ho, hc⟩ := he
    have ne : e ≠ z := fun q => by subst q; rw [iz] at ho; cases ho; simp at hc
    exact hE h3 e (t.trans (tz (.inl rfl) sb.extBut)) ⟨o, sb.extBut _ _ ne ho, hc⟩
  cases hx : xs[k1]? with
  | none =>
    refine wpAny_bind (J1.done hh (J1.over h1 sA.extBut D.i1z D.l1z) hx fun hB e sB he => ?_)
    have zB : IsZip hB z TI TO .ellipsis := sB _ _ D.i1z.symm zA
    exact wpAny_setField_rec zB (by simp) fun hC _ sC => back (uA.trans (t1 (.inr (.inr (.inl rfl))) sB)) zB he sC
  | some x =>
    have hy : ys[k2]? = none := by
      rcases hend with q | q
      · rw [hx] at q; cases q
      · exact q
    refine wpAny_bind (J1.item (J1.over h1 sA.extBut D.i1z D.l1z) hx fun hB sB1 sB => wpAny_pure ?_)
    have uB := uA.trans (t1 (.inr (.inr (.inl rfl))) sB.extBut)
    have pB : IsPair hB TO a b := sB.extBut _ _ D.TOi1 (sA.extBut _ _ D.TOz hTO)
    refine wpAny_bind (wpAny_seqItems pB rfl (wpAny_bind (wpAny_updateSeq_pair pB fun hC pC sC => ?_)))
    have uC := uB.trans (tO (.inr (.inl rfl)) sC.extBut)
    refine wpAny_bind (wpAny_letGo (wpAny_pure ?_))
    refine wpAny_bind (wpAny_bind (wpAny_onRaise ?_))
    show wpAny _ _ (Builtin.SmallTypes.nextOf (.ref i2) >>= _) _ _ _
    have s2C : S2 k2 hC := J2.over (J2.over (J2.over h2 sA.extBut D.i2z D.l2z) sB.extBut D.i12.symm D.l2i1) sC.extBut D.TOi2.symm D.l2TO
    refine wpAny_bind (J2.done hh s2C hy fun hD e sD he => ?_)
    have zD : IsZip hD z TI TO .ellipsis := sD _ _ D.i2z.symm (sC.extBut _ _ D.TOz.symm (sB.extBut _ _ D.i1z.symm zA))
    exact wpAny_setField_rec zD (by simp) fun hE _ sE => back (uC.trans (t2 (.inr (.inr (.inr rfl))) sD)) zD he sE
theorem pyNextG_item {a b x y : Value} {Q : Option Value → Shared → Prop} (D : ZipApart z TI TO i1 i2 l1 l2) (J1 : Itr prog w i1 l1 xs S1) (J2 : Itr prog w i2 l2 ys S2)
    (hz : IsZip s.heap z TI TO .none) (hTI : IsPair s.heap TI (.ref i1) (.ref i2)) (hTO : IsPair s.heap TO a b) (h1 : S1 k1 s.heap) (h2 : S2 k2 s.heap) (hx : xs[k1]? = some x) (hy : ys[k2]? = some y)
    (hQ : ∀ h', IsZip h' z TI TO (rawInt s.heap.objs.size) → IsPair h' TO x y → S1 (k1 + 1) h' → S2 (k2 + 1) h' → IsPair h' s.heap.objs.size x y → h'.objs.size = s.heap.objs.size + 1 → Touch z TO i1 i2 s.heap h' → Q (some (.ref s.heap.objs.size)) { s with heap := h' }) :
    wpAny (model prog w) A (pyNext (.ref z)) Q E s := by
  have hT : s.TypeIs (.ref z) "zip" := ⟨_, hz, rfl⟩
  unfold pyNext
  exact wpAny_bind (wpAny_attempt (wpAny_callSpecial?_slot (name := Str.ofString "__next__") hT F.slot_zip_next
    (wpAny_call_entry F.slot_zip_next hT F.entry_zip_next (zipG_item D J1 J2 hz hTI hTO h1 h2 hx hy fun h' b1 b2 b3 b4 b5 b6 b7 => wpAny_pure (hQ h' b1 b2 b3 b4 b5 b6 b7)) (F.args_zip_next_1 _))))
theorem pyNextG_end {a b : Value} {Q : Option Value → Shared → Prop} (hh : A.handled = none) (D : ZipApart z TI TO i1 i2 l1 l2) (J1 : Itr prog w i1 l1 xs S1) (J2 : Itr prog w i2 l2 ys S2)
    (hz : IsZip s.heap z TI TO .none) (hTI : IsPair s.heap TI (.ref i1) (.ref i2)) (hTO : IsPair s.heap TO a b) (h1 : S1 k1 s.heap) (h2 : S2 k2 s.heap) (hend : xs[k1]? = none ∨ ys[k2]? = none)
    (hQ : ∀ h', Touch z TO i1 i2 s.heap h' → Q none { s with heap := h' }) : wpAny (model prog w) A (pyNext (.ref z)) Q E s := by
  have hT : s.TypeIs (.ref z) "zip" := ⟨_, hz, rfl⟩
  unfold pyNext
  refine wpAny_bind (wpAny_attempt (wpAny_callSpecial?_slot (name := Str.ofString "__next__") hT F.slot_zip_next
    (wpAny_call_entry F.slot_zip_next hT F.entry_zip_next (zipG_end hh D J1 J2 hz hTI hTO h1 h2 hend fun h' e hk he => ?_) (F.args_zip_next_1 _))))
  obtain ⟨o, ho, hc⟩ := he
  exact wpAny_bind (wpAny_isInstance (T := "StopIteration") (b := true) ⟨o, ho, hc⟩ isSubtype_stop (wpAny_pure (hQ _ hk)))
end
end Pm
namespace Pm
open PySem PySem.Spec L2 PyProof.Rows
/-! ### zip of a tuple and a list -/
section
abbrev zmA (h : Heap) (l1 : Addr) : Heap := h.push { cls := .type "tuple_iterator", data := .fields #[.ref l1, .int 0 0] }
abbrev zmB (h : Heap) (l1 l2 : Addr) : Heap := (zmA h l1).push { cls := .type "list_iterator", data := .fields #[.ref l2, .int 0 0] }
abbrev zmC (h : Heap) (l1 l2 : Addr) : Heap := (zmB h l1 l2).push { cls := .type "tuple", data := .seq #[.ref h.objs.size, .ref (zmA h l1).objs.size] }
abbrev zmD (h : Heap) (l1 l2 : Addr) : Heap := (zmC h l1 l2).push { cls := .type "tuple", data := .seq #[.none, .none] }
abbrev zmE (h : Heap) (l1 l2 : Addr) : Heap := (zmD h l1 l2).push { cls := .type "zip", data := .fields #[.none, .bool false, .bool false, .ref (zmB h l1 l2).objs.size, .ref (zmC h l1 l2).objs.size] }
theorem meets_zipTL (l1 l2 : Addr) (xs ys : Array Value) :
    Meets (Builtin.«zip.__new__» ⟨[.type "zip", .ref l1, .ref l2], []⟩) (fun _ R s => s.heap.IsTuple l1 xs ∧ s.heap.IsList l2 ys ∧ R (.ok (.ret (.ref (zmD s.heap l1 l2).objs.size))) { s with heap := zmE s.heap l1 l2 }) :=
  .of_wp fun prog w A R s h => by
    obtain ⟨hp, g, d, tk, os⟩ := s
    obtain ⟨a1, a2, a3⟩ := h
    have hsub := sub_zip
    have b1 : Heap.IsTuple (Shared.heap ⟨hp, g, d, tk, os⟩) l1 xs := a1
    have b2 : Heap.IsList (Shared.heap ⟨zmA hp l1, g, d, tk, os⟩) l2 ys := Heap.IsList.push a2 _
    wp_walk using wpAny_pyIter_tuple b1, wpAny_pyIter_list b2
    exact ⟨_, rfl, a3⟩
variable {prog : Program} {w : World} {A : Around} {E : Value → Shared → Prop} {s : Shared}
theorem call_zipTL {l1 l2 : Addr} {xs ys : Array Value} {Q : Value → Shared → Prop} (a1 : s.heap.IsTuple l1 xs) (a2 : s.heap.IsList l2 ys)
    (h : ∀ h', IsZip h' (s.heap.objs.size + 4) (s.heap.objs.size + 2) (s.heap.objs.size + 3) .none → IsPair h' (s.heap.objs.size + 2) (.ref s.heap.objs.size) (.ref (s.heap.objs.size + 1)) → IsPair h' (s.heap.objs.size + 3) .none .none →
      h'.IsTupleIter s.heap.objs.size l1 0 → h'.IsListIter (s.heap.objs.size + 1) l2 0 → (∀ c o, s.heap.get? c = some o → h'.get? c = some o) → Q (.ref (s.heap.objs.size + 4)) { s with heap := h' }) :
    wpAny (model prog w) A (call (.type "zip") [.ref l1, .ref l2]) Q E s := by
  refine callType_new F.called_zip (by decide) (F.typeCall_zip_2 _ _) (F.newCall_zip_2 _ _) (fun obj => F.args_object_init_3 obj _ _) F.entry_zip_new (meets_zipTL l1 l2 xs ys) ⟨a1, a2, ?_⟩
  have zA : (zmA s.heap l1).objs.size = s.heap.objs.size + 1 := Heap.size_push ..
  have zB : (zmB s.heap l1 l2).objs.size = s.heap.objs.size + 2 := by rw [Heap.size_push, zA]
  have zC : (zmC s.heap l1 l2).objs.size = s.heap.objs.size + 3 := by rw [Heap.size_push, zB]
  have zD : (zmD s.heap l1 l2).objs.size = s.heap.objs.size + 4 := by rw [Heap.size_push, zC]
  have up : ∀ {h : Heap} {o o' : Obj} {c : Addr}, h.get? c = some o → (h.push o').get? c = some o := fun e => Heap.get?_push_of_some _ e
  have gE : (zmE s.heap l1 l2).get? (zmD s.heap l1 l2).objs.size = some _ := Heap.get?_push_size _ rfl
  have gD : (zmE s.heap l1 l2).get? (zmC s.heap l1 l2).objs.size = some _ := up (Heap.get?_push_size _ rfl)
  have gC : (zmE s.heap l1 l2).get? (zmB s.heap l1 l2).objs.size = some _ := up (up (Heap.get?_push_size _ rfl))
  have gB : (zmE s.heap l1 l2).get? (zmA s.heap l1).objs.size = some _ := up (up (up (Heap.get?_push_size _ rfl)))
  have gA : (zmE s.heap l1 l2).get? s.heap.objs.size = some _ := up (up (up (up (Heap.get?_push_size _ rfl))))
  show _ ∧ _
  rw [zB, zC, zD] at gE
  rw [zA, zB] at gC
  rw [zC] at gD
  rw [zA] at gB
  rw [zD]
  exact ⟨⟨_, gE, rfl⟩, h _ gE gC gD ⟨_, gA, rfl, rfl⟩ ⟨_, gB, rfl, rfl⟩ fun c o e => up (up (up (up (up e))))⟩
end
/-- a tuple at a, a list at b, the items in new pairs -/
def ItzTL (K : PySem.W.Frag) (a b : Addr) : It :=
  ⟨fun i H => ∃ (xs ys : List V) (x y : V), SqT K H a xs ∧ SqL K H b ys ∧ xs[i]? = some x ∧ ys[i]? = some y,
    fun i H v H' => ∃ T x y, v = .ref T ∧ H T = none ∧ H' = upd H T (.tup [x, y]) ∧ (∀ xs, SqT K H a xs → xs[i]? = some x) ∧ ∀ ys, SqL K H b ys → ys[i]? = some y,
    fun i H => ∃ xs ys : List V, SqT K H a xs ∧ SqL K H b ys ∧ (xs.length ≤ i ∨ ys.length ≤ i)⟩
theorem turn_zipTL {P : Program} {w : World} {K : PySem.W.Frag} {elts : List Expr} {kk : Nat} {tpos : Pos} {a b z TI TO i1 i2 : Addr} (D : ZipApart z TI TO i1 i2 a b) :
    L2.Turn P w K (.Tuple elts kk tpos) (ItzTL K a b) [z, TI, TO, i1, i2] z (fun i h => IsZip h z TI TO .none ∧ IsPair h TI (.ref i1) (.ref i2) ∧ (∃ x y, IsPair h TO x y) ∧ h.IsTupleIter i1 a i ∧ h.IsListIter i2 b i) where
  mem := by simp
  obj := fun i h st c hc => by
    obtain ⟨hz, hTI, ⟨x, y, hTO⟩, ⟨o1, e1, _, d1⟩, ⟨o2, e2, _, d2⟩⟩ := st
    simp only [List.mem_cons, List.not_mem_nil, or_false] at hc
    rcases hc with rfl | rfl | rfl | rfl | rfl
    · exact ⟨_, hz, fun v q => nomatch q⟩
    · exact ⟨_, hTI, fun v q => nomatch q⟩
    · exact ⟨_, hTO, fun v q => nomatch q⟩
    · exact ⟨o1, e1, fun v q => by rw [d1] at q; cases q⟩
    · exact ⟨o2, e2, fun v q => by rw [d2] at q; cases q⟩
  keep := fun i h h' ⟨hz, hTI, ⟨x, y, hTO⟩, h1, h2⟩ k => ⟨k z (by simp) _ hz, k TI (by simp) _ hTI, ⟨x, y, k TO (by simp) _ hTO⟩, h1.at fun o q => k i1 (by simp) o q, h2.at fun o q => k i2 (by simp) o q⟩
  item := by
    intro X hP hw hK hc i pins s σ H E I hf st hg
    subst hP hw hK
    obtain ⟨hz, hTI, ⟨x0, y0, hTO⟩, h1, h2⟩ := st
    obtain ⟨xs, ys, x, y, qx, qy, hx, hy⟩ := hg
    obtain ⟨its, rv, pp, _⟩ := I.tuple qx
    obtain ⟨its2, rv2, pp2, _⟩ := I.list qy
    obtain ⟨u, hu, ru⟩ := rv.get hx
    obtain ⟨u2, hu2, ru2⟩ := rv2.get hy
    have zlt : z < s.heap.objs.size := Heap.lt_size hz
    refine pyNextG_item (E := E) D (itr_tuple D.l1i1) (itr_list D.l2i2) hz hTI hTO ⟨h1, pp⟩ ⟨h2, pp2.isList⟩ (x := u) (y := u2) (by simpa using hu) (by simpa using hu2) fun h' z' TO' s1 s2 hT hsz hk => ?_
    refine ⟨_, rfl, wpAny_letOwnedTupleGo_zip (s := { s with heap := h' }) z' fun h'' z'' sb => ?_⟩
    have hT2 : h''.get? s.heap.objs.size = some { cls := .type "tuple", data := .seq #[u, u2] } := (sb.2 _ (Nat.ne_of_gt zlt)).trans hT
    have new : ObjOk X.prog X.w (upd H s.heap.objs.size (.tup [x, y])) h'' s.heap.objs.size (.tup [x, y]) :=
      ⟨by show 2 ≤ sizeLine; decide, [u, u2], .cons ru (.cons ru2 .nil), ⟨_, hT2, rfl, _, rfl⟩⟩
    have ne : ∀ c, c ∉ [z, TI, TO, i1, i2] → c ≠ z ∧ c ≠ TO ∧ c ≠ i1 ∧ c ≠ i2 := fun c hb => by
      simp only [List.mem_cons, List.not_mem_nil, or_false, not_or] at hb
      exact ⟨hb.1, hb.2.2.1, hb.2.2.2.1, hb.2.2.2.2⟩
    have I1 : Inv X pins σ (upd H s.heap.objs.size (.tup [x, y])) { s with heap := h'' } :=
      I.turnedNew (t' := s.toks) (ch := [z, TI, TO, i1, i2]) (fun c o hb q => (sb.2 c (ne c hb).1).trans (hk c o (ne c hb).1 (ne c hb).2.1 (ne c hb).2.2.1 (ne c hb).2.2.2 q)) hf (Nat.le_refl _) new
    refine ⟨.ref s.heap.objs.size, _, I1, rfl, ⟨_, x, y, rfl, I.hok.fresh (Nat.le_refl _), rfl, fun l hl => by rw [I.tuple_inj hl qx]; exact hx, fun l hl => by rw [I.list_inj hl qy]; exact hy⟩, ⟨z'', ?_, ⟨u, u2, ?_⟩, ?_, ?_⟩, fun c hcm => ?_⟩
    · exact (sb.2 _ D.TIz).trans (hk _ _ D.TIz D.TITO D.TIi1 D.TIi2 hTI)
    · exact (sb.2 _ D.TOz).trans TO'
    · exact s1.1.at fun o q => (sb.2 _ D.i1z).trans q
    · exact s2.1.at fun o q => (sb.2 _ D.i2z).trans q
    · have hlt : c < s.heap.objs.size := by
        simp only [List.mem_cons, List.not_mem_nil, or_false] at hcm
        rcases hcm with rfl | rfl | rfl | rfl | rfl
        · exact zlt
        · exact Heap.lt_size hTI
        · exact Heap.lt_size hTO
        · obtain ⟨_, e1, _⟩ := h1; exact Heap.lt_size e1
        · obtain ⟨_, e2, _⟩ := h2; exact Heap.lt_size e2
      rw [upd_ne (Nat.ne_of_lt hlt)]
      exact (hf c hcm).1
  done := by
    intro X hP hw hK hc i pins s σ H E I hf st hg
    subst hP hw hK
    obtain ⟨hz, hTI, ⟨x0, y0, hTO⟩, h1, h2⟩ := st
    obtain ⟨xs, ys, qx, qy, hend⟩ := hg
    obtain ⟨its, rv, pp, _⟩ := I.tuple qx
    obtain ⟨its2, rv2, pp2, _⟩ := I.list qy
    have l1 := rv.length
    have l2 := rv2.length
    have he : its.toArray[i]? = none ∨ its2.toArray[i]? = none := by
      rcases hend with q | q
      · exact .inl (by simp; omega)
      · exact .inr (by simp; omega)
    have ne : ∀ c, c ∉ [z, TI, TO, i1, i2] → c ≠ z ∧ c ≠ TO ∧ c ≠ i1 ∧ c ≠ i2 := fun c hb => by
      simp only [List.mem_cons, List.not_mem_nil, or_false, not_or] at hb
      exact ⟨hb.1, hb.2.2.1, hb.2.2.2.1, hb.2.2.2.2⟩
    exact pyNextG_end (I.ok.hd hc) D (itr_tuple D.l1i1) (itr_list D.l2i2) hz hTI hTO ⟨h1, pp⟩ ⟨h2, pp2.isList⟩ he fun h' hk => ⟨rfl, I.turnedL (t' := s.toks) (ch := [z, TI, TO, i1, i2]) (fun c o hb q => hk c o (ne c hb).1 (ne c hb).2.1 (ne c hb).2.2.1 (ne c hb).2.2.2 q) hf⟩
  self := fun A i s Q E st h => wpAny_pyIter_zip st.1 h
end Pm
namespace Pm
open PySem PySem.Spec L2 PyProof.Rows
/-! ### zip of two lists, two tuples, or a tuple and a list -/
def iZipM (K : PySem.W.Frag) (ta : TA) : TI := fun σ H R => ta σ H fun vs H1 => ∃ a b xs ys, vs = [.ref a, .ref b] ∧ ((SqL K H1 a xs ∧ SqL K H1 b ys ∧ R (Itz K a b) H1) ∨ (SqT K H1 a xs ∧ SqT K H1 b ys ∧ R (RZ.ItzT K a b) H1) ∨ (SqT K H1 a xs ∧ SqL K H1 b ys ∧ R (ItzTL K a b) H1))
theorem pi_zipM {X : Cx} {e e2 : Expr} {ta : TA} {p pos tpos : Pos} {elts : List Expr} {kk : Nat} (hg : Gl X "zip") (hm : X.mg "zip" = none) (ha : PA X [e, e2] ta)
    (hs : starEach [e, e2] X.env = (false, eval e X.env) :: starEach [e2] X.env := by rfl) (hpl : (backTo pos (starEach [e2] X.env)).any (·.1) = false := by rfl) :
    PI X (.Tuple elts kk tpos) (.Call (.Name "zip" p) [e, e2] [] pos) (iZipM X.K ta) := by
  refine ⟨fun pins s σ H R I h => ?_⟩
  refine Call_ (ld_blt I hg hm PyProof.Rows.boot_zip (PyProof.Rows.callWith_type1 (thn (ha.run pos pins s σ H _ I h) fun us s1 ⟨vs, H1, I1, r1, q1⟩ => ?_) hs hpl))
  obtain ⟨a, b, xs, ys, rfl, q1⟩ := q1
  obtain ⟨ua, ub, rfl, ra, rb⟩ : ∃ ua ub, us = [ua, ub] ∧ RelV (.ref a) ua ∧ RelV (.ref b) ub := by
    cases r1 with
    | cons r rr => cases rr with
      | cons r' rr => cases rr; exact ⟨_, _, rfl, r, r'⟩
  cases ra
  cases rb
  obtain ⟨n, hn⟩ : ∃ n, n = s1.heap.objs.size := ⟨_, rfl⟩
  have fr : ∀ c, c ∈ [s1.heap.objs.size + 4, s1.heap.objs.size + 2, s1.heap.objs.size + 3, s1.heap.objs.size, s1.heap.objs.size + 1] → FpOk X pins H1 c := fun c hc => by
    have le : s1.heap.objs.size ≤ c := by
      simp only [List.mem_cons, List.not_mem_nil, or_false] at hc; omega
    exact I1.fpOk le (I1.hok.fresh le)
  rcases q1 with ⟨qx, qy, q⟩ | ⟨qx, qy, q⟩ | ⟨qx, qy, q⟩
  · obtain ⟨_, _, p1, _⟩ := I1.list qx
    obtain ⟨_, _, p2, _⟩ := I1.list qy
    refine call_zip_2 p1.isList p2.isList fun h' b1 b2 b3 b4 b5 _ hk => wpAny_pyIter_zip b1 ?_
    exact ⟨_, _, _, _, H1, rfl, I1.kept (t' := s1.toks) hk, turn_zip (PySem.W.ktu_apart s1.heap.objs.size a b p1.lt p2.lt), ⟨b1, b2, ⟨_, _, b3⟩, b4, b5⟩, fr, q⟩
  · obtain ⟨its, _, p1, _⟩ := I1.tuple qx
    obtain ⟨its2, _, p2, _⟩ := I1.tuple qy
    have l1 : a < s1.heap.objs.size := by obtain ⟨_, e, _⟩ := id p1; exact Heap.lt_size e
    have l2 : b < s1.heap.objs.size := by obtain ⟨_, e, _⟩ := id p2; exact Heap.lt_size e
    refine RZ.call_zipT (show s1.heap.IsTuple a its.toArray from p1) (show s1.heap.IsTuple b its2.toArray from p2) fun h' b1 b2 b3 b4 b5 _ hk => wpAny_pyIter_zip b1 ?_
    exact ⟨_, _, _, _, H1, rfl, I1.kept (t' := s1.toks) hk, RZ.turn_zipT (PySem.W.ktu_apart s1.heap.objs.size a b l1 l2), ⟨b1, b2, ⟨_, _, b3⟩, b4, b5⟩, fr, q⟩
  · obtain ⟨its, _, p1, _⟩ := I1.tuple qx
    obtain ⟨its2, _, p2, _⟩ := I1.list qy
    have l1 : a < s1.heap.objs.size := by obtain ⟨_, e, _⟩ := id p1; exact Heap.lt_size e
    refine call_zipTL (show s1.heap.IsTuple a its.toArray from p1) p2.isList fun h' b1 b2 b3 b4 b5 hk => wpAny_pyIter_zip b1 ?_
    exact ⟨_, _, _, _, H1, rfl, I1.kept (t' := s1.toks) hk, turn_zipTL (PySem.W.ktu_apart s1.heap.objs.size a b l1 p2.lt), ⟨b1, b2, ⟨_, _, b3⟩, b4, b5⟩, fr, q⟩
section
variable {K : PySem.W.Frag} {a b : Addr} {n : Nat}
theorem walkTL : Walk (ItzTL K a b) n (fun H => ∃ us vs, SqT K H a us ∧ SqL K H b vs ∧ n = min us.length vs.length) (fun i H v H' => ∃ T x y, v = .ref T ∧ H T = none ∧ H' = upd H T (.tup [x, y]) ∧ (∀ us, SqT K H a us → us[i]? = some x) ∧ ∀ vs, SqL K H b vs → vs[i]? = some y) :=
  ⟨fun i H hi ⟨us, vs, q1, q2, e⟩ => ⟨us, vs, us[i]'(by omega), vs[i]'(by omega), q1, q2, by simp [show i < us.length by omega], by simp [show i < vs.length by omega]⟩, fun H ⟨us, vs, q1, q2, e⟩ => ⟨us, vs, q1, q2, by omega⟩, fun _ _ _ _ _ _ y => y⟩
end
def srcZipM : List PV → VH → Res Src
  | [.tup xs, .lst ys], h => .ok ⟨zipL xs ys, []⟩ h
  | vs, h => srcZip vs h
theorem srcZipM_tl (xs ys : List PV) (h : VH) : srcZipM [.tup xs, .lst ys] h = .ok ⟨zipL xs ys, []⟩ h := rfl
theorem srcZipM_tt (xs ys : List PV) (h : VH) : srcZipM [.tup xs, .tup ys] h = .ok ⟨zipL xs ys, []⟩ h := rfl
section
variable {c : Ck} {X : Cx} {W : WX} {pos p : Pos} {e e2 tg : Expr} {es : List Expr} {m : EM} {ms : AM}
def iZpM (ms : AM) : LS → VH → Res Src := fun σ h => (ms σ h).bind srcZipM
theorem iZpM_def (σ : LS) (h : VH) : iZpM ms σ h = (ms σ h).bind srcZipM := rfl
theorem SI.zipM {elts : List Expr} {kk : Nat} {tpos : Pos} (hg : Gl X "zip") (hm : X.mg "zip" = none) (ha : SA c X W [e, e2] ms) (hs : starEach [e, e2] X.env = (false, eval e X.env) :: starEach [e2] X.env := by rfl) (hpl : (backTo pos (starEach [e2] X.env)).any (·.1) = false := by rfl) :
    SI c X W (.Tuple elts kk tpos) (.Call (.Name "zip" p) [e, e2] [] pos) (iZpM ms) := by
  obtain ⟨la, t, pa, s⟩ := ha
  refine ⟨_, pi_zipM hg hm pa hs hpl, fun g σ h τ H R rs rh q => s g σ h τ H _ rs rh ((Post.bind q).imp (fun us H1 ⟨g1, xs, h1, m1, q1⟩ => ?_) fun _ _ _ z => z)⟩
  unfold srcZipM at q1
  split at q1
  · rename_i xs ys
    obtain ⟨u, v, rfl, rx, ry⟩ := m1.rep.two
    obtain ⟨a, us, rfl, s1, r1⟩ := tup_run rx m1.rel
    obtain ⟨b, vs, rfl, s2, r2⟩ := lstOf_run ry m1.rel (lstOf_lst ys h1)
    refine ⟨a, b, us, vs, rfl, .inr (.inr ⟨.inl (.inl s1), s2, q1.go m1.rel ⟨_, _, walkTL, fun g' h' H' l hn rh' _ => ?_, fun i z g' h' H' H2 l hn rh' _ hz u' hu => ?_⟩⟩)⟩
    · obtain ⟨a', us', e, s', r'⟩ := tup_run (rx.mono0 l hn) rh'
      cases e
      obtain ⟨b', vs', e, s2', r2'⟩ := lstOf_run (ry.mono0 l hn) rh' (lstOf_lst ys h')
      cases e
      exact ⟨us', vs', .inl (.inl s'), s2', by rw [r'.length, r2'.length, zipL_length]⟩
    · obtain ⟨T, x, y, rfl, nT, rfl, hu1, hu2⟩ := hu
      obtain ⟨zx, zy, e1, e2, rfl⟩ := zipL_get hz
      obtain ⟨a', us', e, s', r'⟩ := tup_run (rx.mono0 l hn) rh'
      cases e
      obtain ⟨b', vs', e, s2', r2'⟩ := lstOf_run (ry.mono0 l hn) rh' (lstOf_lst ys h')
      cases e
      obtain ⟨w1, f1, q1⟩ := r'.get e1
      obtain ⟨w2, f2, q2⟩ := r2'.get e2
      have z1 := hu1 us' (.inl (.inl s'))
      have z2 := hu2 vs' s2'
      rw [f1] at z1; cases z1
      rw [f2] at z2; cases z2
      obtain ⟨le, rh2⟩ := RelH.frz (o := .tup [x, y]) rh' nT
      refine ⟨_, le, rh2, ?_⟩
      simp only [Rep]
      exact ⟨T, _, rfl, upd_same, Reps.cons (q1.mono le (Nat.le_refl _)) (Reps.cons (q2.mono le (Nat.le_refl _)) Reps.nil)⟩
  · rename_i _ _ zz
    clear zz
    unfold srcZip at q1
    split at q1
    · rename_i xs ys
      obtain ⟨u, v, rfl, rx, ry⟩ := m1.rep.two
      obtain ⟨a, us, rfl, s1, r1⟩ := tup_run rx m1.rel
      obtain ⟨b, vs, rfl, s2, r2⟩ := tup_run ry m1.rel
      refine ⟨a, b, us, vs, rfl, .inr (.inl ⟨.inl (.inl s1), .inl (.inl s2), q1.go m1.rel ⟨_, _, walkZT, fun g' h' H' l hn rh' _ => ?_, fun i z g' h' H' H2 l hn rh' _ hz u' hu => ?_⟩⟩)⟩
      · obtain ⟨a', us', e, s', r'⟩ := tup_run (rx.mono0 l hn) rh'
        cases e
        obtain ⟨b', vs', e, s2', r2'⟩ := tup_run (ry.mono0 l hn) rh'
        cases e
        exact ⟨us', vs', .inl (.inl s'), .inl (.inl s2'), by rw [r'.length, r2'.length, zipL_length]⟩
      · obtain ⟨T, x, y, rfl, nT, rfl, hu1, hu2⟩ := hu
        obtain ⟨zx, zy, e1, e2, rfl⟩ := zipL_get hz
        obtain ⟨a', us', e, s', r'⟩ := tup_run (rx.mono0 l hn) rh'
        cases e
        obtain ⟨b', vs', e, s2', r2'⟩ := tup_run (ry.mono0 l hn) rh'
        cases e
        obtain ⟨w1, f1, q1⟩ := r'.get e1
        obtain ⟨w2, f2, q2⟩ := r2'.get e2
        have z1 := hu1 us' (.inl (.inl s'))
        have z2 := hu2 vs' (.inl (.inl s2'))
        rw [f1] at z1; cases z1
        rw [f2] at z2; cases z2
        obtain ⟨le, rh2⟩ := RelH.frz (o := .tup [x, y]) rh' nT
        refine ⟨_, le, rh2, ?_⟩
        simp only [Rep]
        exact ⟨T, _, rfl, upd_same, Reps.cons (q1.mono le (Nat.le_refl _)) (Reps.cons (q2.mono le (Nat.le_refl _)) Reps.nil)⟩
    · rename_i x0 y0 _
      obtain ⟨u, v, rfl, rx, ry⟩ := m1.rep.two
      split at q1
      · rename_i xs ys ex ey
        obtain ⟨a, us, rfl, s1, r1⟩ := lstOf_run rx m1.rel ex
        obtain ⟨b, vs, rfl, s2, r2⟩ := lstOf_run ry m1.rel ey
        have now : ∀ {g' h' H'}, g1.le0 h1.length g' → h1.length ≤ h'.length → RelH (kx c X) g' h' H' → ckOk (ckOf x0 h1 ++ ckOf y0 h1) h' → ∃ us' vs', SqL X.K H' a us' ∧ SqL X.K H' b vs' ∧ Reps (kx c X) g' h'.length xs us' ∧ Reps (kx c X) g' h'.length ys vs' := fun {g' h' H'} l hn rh' ck => by
          obtain ⟨c1, c2⟩ := ckOk_app.mp ck
          obtain ⟨e1, rx'⟩ := keptL rx m1.rel ex l hn rh' c1
          obtain ⟨e2, ry'⟩ := keptL ry m1.rel ey l hn rh' c2
          obtain ⟨a', us', e, s', r'⟩ := lstOf_run rx' rh' e1
          cases e
          obtain ⟨b', vs', e, s2', r2'⟩ := lstOf_run ry' rh' e2
          cases e
          exact ⟨us', vs', s', s2', r', r2'⟩
        refine ⟨a, b, us, vs, rfl, .inl ⟨s1, s2, q1.go m1.rel ⟨_, _, walkZ, fun g' h' H' l hn rh' ck => ?_, fun i z g' h' H' H2 l hn rh' ck hz u' hu => ?_⟩⟩⟩
        · obtain ⟨us', vs', s', s2', r', r2'⟩ := now l hn rh' ck
          exact ⟨us', vs', s', s2', by rw [r'.length, r2'.length, zipL_length]⟩
        · obtain ⟨T, x, y, rfl, nT, rfl, hu1, hu2⟩ := hu
          obtain ⟨zx, zy, e1, e2, rfl⟩ := zipL_get hz
          obtain ⟨us', vs', s', s2', r', r2'⟩ := now l hn rh' ck
          obtain ⟨w1, f1, q1⟩ := r'.get e1
          obtain ⟨w2, f2, q2⟩ := r2'.get e2
          have z1 := hu1 us' s'
          have z2 := hu2 vs' s2'
          rw [f1] at z1; cases z1
          rw [f2] at z2; cases z2
          obtain ⟨le, rh2⟩ := RelH.frz (o := .tup [x, y]) rh' nT
          refine ⟨_, le, rh2, ?_⟩
          simp only [Rep]
          exact ⟨T, _, rfl, upd_same, Reps.cons (q1.mono le (Nat.le_refl _)) (Reps.cons (q2.mono le (Nat.le_refl _)) Reps.nil)⟩
      · exact q1.elim
    · exact q1.elim
end
end Pm
namespace Pm
open PySem PySem.Spec L2 PyProof.Rows
/-! ### depths -/
theorem allD_up {f g : PV → Option PyData} : ∀ {xs : List PV} {ds : List PyData}, (∀ x ∈ xs, ∀ d, f x = some d → g x = some d) → allD f xs = some ds → allD g xs = some ds
  | [], ds, _, e => e
  | x :: xs, ds, h, e => by
    unfold allD at e ⊢
    cases e1 : f x with
    | none => rw [e1] at e; simp at e
    | some d =>
      cases e2 : allD f xs with
      | none => rw [e1, e2] at e; simp at e
      | some es =>
        rw [h x List.mem_cons_self d e1, allD_up (fun y hy => h y (List.mem_cons_of_mem _ hy)) e2]
        rw [e1, e2] at e; exact e
theorem toD_up {h : VH} : ∀ (n : Nat) (v : PV) (d : PyData), toD h n v = some d → toD h (n + 1) v = some d
  | 0, v, d, e => by
    cases v <;> simp_all [toD]
  | n + 1, v, d, e => by
    cases v with
    | tup xs =>
      rw [toD_tup] at e ⊢
      cases q : allD (toD h n) xs with
      | none => rw [q] at e; simp at e
      | some ds => rw [allD_up (fun x _ d => toD_up n x d) q]; rw [q] at e; exact e
    | lst xs =>
      rw [toD_lst] at e ⊢
      cases q : allD (toD h n) xs with
      | none => rw [q] at e; simp at e
      | some ds => rw [allD_up (fun x _ d => toD_up n x d) q]; rw [q] at e; exact e
    | ref i =>
      unfold toD at e ⊢
      cases q : h[i]? with
      | none => rw [q] at e; simp at e
      | some o =>
        rw [q] at e
        cases o with
        | lst xs =>
          simp only at e ⊢
          cases q : allD (toD h n) xs with
          | none => rw [q] at e; simp at e
          | some ds => rw [allD_up (fun x _ d => toD_up n x d) q]; rw [q] at e; exact e
        | _ => simp at e
    | _ => first | (simpa using e) | (simp [toD] at e)
theorem Rp.deep {n w : Nat} {v : PV} {d : PyData} (r : Rp n w v d) : Rp (n + 1) w v d := ⟨fun h => toD_up n v d (r.dat h), r.lay, r.sh, r.wt⟩
theorem Pv.deep {n w : Nat} {v : PV} (p : Pv n w v) : Pv (n + 1) w v := ⟨p.kd, p.row, p.cl, p.clean, let ⟨d, r⟩ := p.sh; ⟨d, r.deep⟩⟩
def isBtwV (v : PV) (lo hi : Int) : Bool := match v with
  | .int i => decide (lo ≤ i ∧ i ≤ hi)
  | _ => false
end Pm
namespace Pm
open PySem PySem.Spec L2 PyProof.Rows
/-! ### list(range(..)), tuple(range(..)) -/
section
variable {c : Ck} {X : Cx} {W : WX} {pos p p2 : Pos} {e e2 : Expr} {m m2 : EM}
theorem rgV_reps {K : Kc} {g : Gh} {n : Nat} {a : Int} {k : Nat} : Reps K g n (rngL a k) ((List.range k).map fun i => V.int (a + (i : Nat))) := by
  unfold rngL
  have : ∀ L : List Nat, Reps K g n (L.map fun i => PV.int (a + (i : Nat))) (L.map fun i => V.int (a + (i : Nat))) := fun L => by
    induction L with
    | nil => exact Reps.nil
    | cons i L ih => exact Reps.cons (by simp only [Rep]) ih
  exact this _
/-- the range's numbers -/
def rgArgs : List PV → Option (Int × Int)
  | [.int j] => some (0, j)
  | [.int i, .int j] => some (i, j)
  | _ => none
def rgFit (a b : Int) : Prop := -(2 ^ 62) ≤ a ∧ a < 2 ^ 62 ∧ -(2 ^ 62) ≤ b ∧ b < 2 ^ 62 ∧ (b - a).toNat ≤ 2 ^ 24
instance (a b : Int) : Decidable (rgFit a b) := by unfold rgFit; exact inferInstance
/-- list(range(..)), tuple(range(..)) -/
def rgP (tup cell : Bool) (xs : List PV) (h : VH) : Res PV := match rgArgs xs with
  | some (a, b) => if rgFit a b then (if tup then .ok (.tup (rngL a (b - a).toNat)) h else mkL cell (rngL a (b - a).toNat) h) else .bad
  | none => .bad
theorem rgP_t {cell : Bool} {n : Nat} {h : VH} (hn : n ≤ 1000000) : rgP true cell [.int (n : Int)] h = .ok (.tup (rngL 0 n)) h := by
  unfold rgP rgArgs
  simp only
  rw [if_pos ⟨by omega, by omega, by omega, by omega, by omega⟩]
  simp
theorem rgP_l {cell : Bool} {n : Nat} {h : VH} (hn : n ≤ 1000000) : rgP false cell [.int (n : Int)] h = mkL cell (rngL 0 n) h := by
  unfold rgP rgArgs
  simp only
  rw [if_pos ⟨by omega, by omega, by omega, by omega, by omega⟩]
  simp
theorem rg_run {tup cell : Bool} {xs : List PV} {a b : Int} {g : Gh} {h : VH} {H : Hp} {Q : VK} {E : XK} (ha : rgArgs xs = some (a, b)) (rh : RelH (kx c X) g h H) (q : Post (kx c X) (Rep (kx c X)) g h.length Q E (rgP tup cell xs h)) :
    RgOk a b ∧ ((tup = true → ∀ q, H q = none → Q (.ref q) (upd H q (.tup (rgV a b)))) ∧ (tup = false → ∀ q, H q = none → Q (.ref q) (upd H q (.lst (rgV a b))))) := by
  unfold rgP at q
  rw [ha] at q
  simp only at q
  by_cases z : rgFit a b
  · rw [if_pos z] at q
    refine ⟨z, fun t => ?_, fun t => ?_⟩
    · subst t
      exact tup_new (E := E) rh rgV_reps q
    · subst t
      exact mkL_new (E := E) rh rgV_reps q
  · rw [if_neg z] at q; exact q.elim
def eRg (tup cell : Bool) (ms : AM) : EM := fun σ h => (ms σ h).bind fun xs h1 => rgP tup cell xs h1
theorem eRg_def (tup cell : Bool) (ms : AM) (σ : LS) (h : VH) : eRg tup cell ms σ h = (ms σ h).bind fun xs h1 => rgP tup cell xs h1 := rfl
theorem rgP_nx {tup cell : Bool} {x : PV} {g : Gh} {h : VH} {Q : VK} {E : XK} {K : Kc} {u : V} (rx : Rep K g h.length x u) (q : Post K (Rep K) g h.length Q E (rgP tup cell [x] h)) : ∃ j, x = .int j ∧ u = .int j := by
  cases x with
  | int j => simp only [Rep] at rx; exact ⟨j, rfl, rx⟩
  | _ => exact q.elim
theorem rgP_nx2 {tup cell : Bool} {x y : PV} {g : Gh} {h : VH} {Q : VK} {E : XK} {K : Kc} {u v : V} (rx : Rep K g h.length x u) (ry : Rep K g h.length y v) (q : Post K (Rep K) g h.length Q E (rgP tup cell [x, y] h)) : ∃ i j, x = .int i ∧ u = .int i ∧ y = .int j ∧ v = .int j := by
  cases x with
  | int i =>
    cases y with
    | int j => simp only [Rep] at rx ry; exact ⟨i, j, rfl, rx, rfl, ry⟩
    | _ => exact q.elim
  | _ => exact q.elim
theorem rg1_go {tup cell : Bool} {t : TE} {g : Gh} {σ : LS} {h : VH} {τ : L2.St} {H : Hp} {Q : VK} {R : Int → Int → Hp → Prop}
    (s : ∀ g σ h τ H Q, RelS (kx c X) g h.length σ τ → RelH (kx c X) g h H → Post (kx c X) (Rep (kx c X)) g h.length Q (at_ W τ) (m σ h) → t τ H Q)
    (hk : ∀ a b xs g1 (h1 : VH) H1, rgArgs xs = some (a, b) → RelH (kx c X) g1 h1 H1 → Post (kx c X) (Rep (kx c X)) g1 h1.length Q (at_ W τ) (rgP tup cell xs h1) → R a b H1)
    (rs : RelS (kx c X) g h.length σ τ) (rh : RelH (kx c X) g h H) (q : Post (kx c X) (Rep (kx c X)) g h.length Q (at_ W τ) (eRg tup cell (aCons m aNil) σ h)) : tRg1 t τ H R := by
  have e : eRg tup cell (aCons m aNil) σ h = (m σ h).bind fun x h1 => rgP tup cell [x] h1 := by
    simp only [eRg_def, aCons_def, aNil_def]
    cases m σ h <;> rfl
  rw [e] at q
  refine s g σ h τ H _ rs rh ((Post.bind q).imp (fun u H1 ⟨g1, x, h1, m1, q1⟩ => ?_) fun _ _ _ z => z)
  obtain ⟨j, rfl, eu⟩ := rgP_nx m1.rep q1
  exact ⟨j, eu, hk _ _ _ _ _ _ rfl m1.rel q1⟩
theorem rg2_go {tup cell : Bool} {t t2 : TE} {g : Gh} {σ : LS} {h : VH} {τ : L2.St} {H : Hp} {Q : VK} {R : Int → Int → Hp → Prop}
    (s : ∀ g σ h τ H Q, RelS (kx c X) g h.length σ τ → RelH (kx c X) g h H → Post (kx c X) (Rep (kx c X)) g h.length Q (at_ W τ) (m σ h) → t τ H Q)
    (s2 : ∀ g σ h τ H Q, RelS (kx c X) g h.length σ τ → RelH (kx c X) g h H → Post (kx c X) (Rep (kx c X)) g h.length Q (at_ W τ) (m2 σ h) → t2 τ H Q)
    (hk : ∀ a b xs g1 (h1 : VH) H1, rgArgs xs = some (a, b) → RelH (kx c X) g1 h1 H1 → Post (kx c X) (Rep (kx c X)) g1 h1.length Q (at_ W τ) (rgP tup cell xs h1) → R a b H1)
    (rs : RelS (kx c X) g h.length σ τ) (rh : RelH (kx c X) g h H) (q : Post (kx c X) (Rep (kx c X)) g h.length Q (at_ W τ) (eRg tup cell (aCons m (aCons m2 aNil)) σ h)) : tRg2 t t2 τ H R := by
  have e : eRg tup cell (aCons m (aCons m2 aNil)) σ h = (m σ h).bind fun x h1 => (m2 σ h1).bind fun y h2 => rgP tup cell [x, y] h2 := by
    simp only [eRg_def, aCons_def, aNil_def]
    cases m σ h with
    | ok a h1 => simp only [Res.bind_ok]; cases m2 σ h1 <;> rfl
    | _ => rfl
  rw [e] at q
  refine s g σ h τ H _ rs rh ((Post.bind q).imp (fun u H1 ⟨g1, x, h1, m1, q1⟩ => ?_) fun _ _ _ z => z)
  refine s2 g1 σ h1 τ H1 _ (rs.mono m1.le m1.len) m1.rel ((Post.bind q1).imp (fun v H2 ⟨g2, y, h2, mm2, q2⟩ => ?_) fun _ _ _ z => z)
  obtain ⟨i, j, rfl, eu, rfl, ev⟩ := rgP_nx2 (m1.rep.mono mm2.le mm2.len) mm2.rep q2
  exact ⟨i, j, eu, ev, hk _ _ _ _ _ _ rfl mm2.rel q2⟩
variable {pos' : Pos}
theorem SE.tupRg1 (hc : X.calm = true) (hg : Gl X "tuple") (hm : X.mg "tuple" = none) (hg2 : Gl X "range") (hm2 : X.mg "range" = none) (he : SE c X W e m)
    (na : starEach [e] X.env = (false, eval e X.env) :: starEach [] X.env := by rfl) (nb : starEach [Expr.Call (.Name "range" p2) [e] [] pos] X.env = (false, eval (Expr.Call (.Name "range" p2) [e] [] pos) X.env) :: starEach [] X.env := by rfl) :
    SE c X W (.Call (.Name "tuple" p) [.Call (.Name "range" p2) [e] [] pos] [] pos') (eRg true false (aCons m aNil)) := by
  obtain ⟨t, pe, s⟩ := he
  exact ⟨_, pe_tupRg hc hg hm (prg_1 hg2 hm2 pe na) nb, fun g σ h τ H Q rs rh q => rg1_go (tup := true) (cell := false) s (fun a b xs g1 h1 H1 ea rh1 q1 => by have r := rg_run ea rh1 q1; exact ⟨r.1, r.2.1 rfl⟩) rs rh q⟩
theorem SE.lstRg1 (cell : Bool) (hc : X.calm = true) (hg : Gl X "list") (hm : X.mg "list" = none) (hg2 : Gl X "range") (hm2 : X.mg "range" = none) (he : SE c X W e m)
    (na : starEach [e] X.env = (false, eval e X.env) :: starEach [] X.env := by rfl) (nb : starEach [Expr.Call (.Name "range" p2) [e] [] pos] X.env = (false, eval (Expr.Call (.Name "range" p2) [e] [] pos) X.env) :: starEach [] X.env := by rfl) :
    SE c X W (.Call (.Name "list" p) [.Call (.Name "range" p2) [e] [] pos] [] pos') (eRg false cell (aCons m aNil)) := by
  obtain ⟨t, pe, s⟩ := he
  exact ⟨_, pe_listRg hc hg hm (prg_1 hg2 hm2 pe na) nb, fun g σ h τ H Q rs rh q => rg1_go (tup := false) (cell := cell) s (fun a b xs g1 h1 H1 ea rh1 q1 => by have r := rg_run ea rh1 q1; exact ⟨r.1, r.2.2 rfl⟩) rs rh q⟩
theorem SE.tupRg2 (hc : X.calm = true) (hg : Gl X "tuple") (hm : X.mg "tuple" = none) (hg2 : Gl X "range") (hm2 : X.mg "range" = none) (he : SE c X W e m) (he2 : SE c X W e2 m2)
    (na : starEach [e, e2] X.env = (false, eval e X.env) :: starEach [e2] X.env := by rfl) (na2 : starEach [e2] X.env = (false, eval e2 X.env) :: starEach [] X.env := by rfl) (np : (backTo pos (starEach [e2] X.env)).any (·.1) = false := by rfl)
    (nb : starEach [Expr.Call (.Name "range" p2) [e, e2] [] pos] X.env = (false, eval (Expr.Call (.Name "range" p2) [e, e2] [] pos) X.env) :: starEach [] X.env := by rfl) :
    SE c X W (.Call (.Name "tuple" p) [.Call (.Name "range" p2) [e, e2] [] pos] [] pos') (eRg true false (aCons m (aCons m2 aNil))) := by
  obtain ⟨t, pe, s⟩ := he
  obtain ⟨t2, pe2, s2⟩ := he2
  exact ⟨_, pe_tupRg hc hg hm (prg_2 hg2 hm2 pe pe2 na na2 np) nb, fun g σ h τ H Q rs rh q => rg2_go (tup := true) (cell := false) s s2 (fun a b xs g1 h1 H1 ea rh1 q1 => by have r := rg_run ea rh1 q1; exact ⟨r.1, r.2.1 rfl⟩) rs rh q⟩
theorem SE.lstRg2 (cell : Bool) (hc : X.calm = true) (hg : Gl X "list") (hm : X.mg "list" = none) (hg2 : Gl X "range") (hm2 : X.mg "range" = none) (he : SE c X W e m) (he2 : SE c X W e2 m2)
    (na : starEach [e, e2] X.env = (false, eval e X.env) :: starEach [e2] X.env := by rfl) (na2 : starEach [e2] X.env = (false, eval e2 X.env) :: starEach [] X.env := by rfl) (np : (backTo pos (starEach [e2] X.env)).any (·.1) = false := by rfl)
    (nb : starEach [Expr.Call (.Name "range" p2) [e, e2] [] pos] X.env = (false, eval (Expr.Call (.Name "range" p2) [e, e2] [] pos) X.env) :: starEach [] X.env := by rfl) :
    SE c X W (.Call (.Name "list" p) [.Call (.Name "range" p2) [e, e2] [] pos] [] pos') (eRg false cell (aCons m (aCons m2 aNil))) := by
  obtain ⟨t, pe, s⟩ := he
  obtain ⟨t2, pe2, s2⟩ := he2
  exact ⟨_, pe_listRg hc hg hm (prg_2 hg2 hm2 pe pe2 na na2 np) nb, fun g σ h τ H Q rs rh q => rg2_go (tup := false) (cell := cell) s s2 (fun a b xs g1 h1 H1 ea rh1 q1 => by have r := rg_run ea rh1 q1; exact ⟨r.1, r.2.2 rfl⟩) rs rh q⟩
end
end Pm
namespace Pm
open PySem PySem.Spec L2 PyProof.Rows
/-! ### dicts: what stands for a key -/
section
variable {κ : Type} [DecidableEq κ]
def dVal (key : PV → Option κ) (kvs : List (PV × PV)) (k : κ) : Option PV := (kvs.find? fun p => decide (key p.1 = some k)).map (·.2)
def dPut (key : PV → Option κ) (kvs : List (PV × PV)) (k : κ) (y v : PV) : List (PV × PV) :=
  if (kvs.any fun p => decide (key p.1 = some k)) = true then kvs.map (fun p => if key p.1 = some k then (p.1, v) else p) else kvs ++ [(y, v)]
variable {K : Kc} {g : Gh} {n : Nat} {key : PV → Option κ}
theorem RepD.val {k : κ} : ∀ {kvs : List (PV × PV)} {us : List (κ × V)}, RepD K g n key kvs us → (∀ x, dVal key kvs k = some x → ∃ u, valV us k = some u ∧ Rep K g n x u) ∧ (dVal key kvs k = none → valV us k = none)
  | [], _, h => by simp only [RepD] at h; subst h; exact ⟨(fun _ z => nomatch z), fun _ => rfl⟩
  | (y, x) :: xs, _, h => by
    simp only [RepD] at h
    obtain ⟨k', u, r, rfl, ek, a, b⟩ := h
    have ih := RepD.val (k := k) b
    by_cases e : k' = k
    · subst e
      have e1 : dVal key ((y, x) :: xs) k' = some x := by simp [dVal, List.find?_cons, ek]
      rw [e1, valV_pos (p := (k', u)) rfl]
      exact ⟨fun z q => by cases q; exact ⟨u, rfl, a⟩, fun z => nomatch z⟩
    · have e1 : dVal key ((y, x) :: xs) k = dVal key xs k := by
        have : ¬ key y = some k := by rw [ek]; intro z; exact e (Option.some.inj z)
        simp [dVal, List.find?_cons, this]
      rw [e1, valV_neg (p := (k', u)) e]
      exact ih
theorem RepD.any {k : κ} : ∀ {kvs : List (PV × PV)} {us : List (κ × V)}, RepD K g n key kvs us → (kvs.any fun p => decide (key p.1 = some k)) = us.any fun p => decide (p.1 = k)
  | [], _, h => by simp only [RepD] at h; subst h; rfl
  | (y, x) :: xs, _, h => by
    simp only [RepD] at h
    obtain ⟨k', u, r, rfl, ek, a, b⟩ := h
    simp only [List.any_cons, RepD.any b, ek, Option.some.injEq]
theorem RepD.putIn {k : κ} {v : PV} {w : V} (rv : Rep K g n v w) : ∀ {kvs : List (PV × PV)} {us : List (κ × V)}, RepD K g n key kvs us → RepD K g n key (kvs.map fun p => if key p.1 = some k then (p.1, v) else p) (us.map fun p => if p.1 = k then (p.1, w) else p)
  | [], _, h => by simp only [RepD] at h; subst h; simp [RepD]
  | (y, x) :: xs, _, h => by
    simp only [RepD] at h
    obtain ⟨k', u, r, rfl, ek, a, b⟩ := h
    simp only [List.map_cons]
    by_cases e : k' = k
    · subst e
      rw [if_pos ek, if_pos rfl]
      exact ⟨_, _, _, rfl, ek, rv, RepD.putIn rv b⟩
    · rw [if_neg (by rw [ek]; intro z; exact e (Option.some.inj z)), if_neg e]
      exact ⟨_, _, _, rfl, ek, a, RepD.putIn rv b⟩
theorem RepD.snoc {y v : PV} {k : κ} {w : V} (ek : key y = some k) (rv : Rep K g n v w) : ∀ {kvs : List (PV × PV)} {us : List (κ × V)}, RepD K g n key kvs us → RepD K g n key (kvs ++ [(y, v)]) (us ++ [(k, w)])
  | [], _, h => by simp only [RepD] at h; subst h; exact ⟨k, w, [], rfl, ek, rv, rfl⟩
  | (z, x) :: xs, _, h => by
    simp only [RepD] at h
    obtain ⟨k', u, r, rfl, ek', a, b⟩ := h
    exact ⟨k', u, _, rfl, ek', a, RepD.snoc ek rv b⟩
theorem RepD.put {y v : PV} {k : κ} {w : V} (ek : key y = some k) (rv : Rep K g n v w) {kvs : List (PV × PV)} {us : List (κ × V)} (r : RepD K g n key kvs us) : RepD K g n key (dPut key kvs k y v) (putK us k w) := by
  unfold dPut putK
  rw [RepD.any r]
  split
  · exact RepD.putIn rv r
  · exact RepD.snoc ek rv r
end
def dicOf (x : PV) (h : VH) : Option (Nat × Bool × List (PV × PV)) := match x with
  | .ref i => match h[i]? with
    | some (.dic t kvs) => some (i, t, kvs)
    | _ => none
  | _ => none
theorem dicOf_ref {i : Nat} {t : Bool} {kvs : List (PV × PV)} {h : VH} (e : h[i]? = some (.dic t kvs)) : dicOf (.ref i) h = some (i, t, kvs) := by simp [dicOf, e]
/-- what a look-up finds, if it may be asked for -/
def dgetO (x y : PV) (h : VH) : Option (Option PV) := match dicOf x h with
  | some (_, false, kvs) => (pK y).map (dVal pK kvs)
  | some (_, true, kvs) => (pT y).map (dVal pT kvs)
  | none => none
theorem dgetO_k {i : Nat} {kvs : List (PV × PV)} {y : PV} {k : Key} {h : VH} (e : h[i]? = some (.dic false kvs)) (ek : pK y = some k) : dgetO (.ref i) y h = some (dVal pK kvs k) := by simp [dgetO, dicOf_ref e, ek]
theorem dgetO_t {i : Nat} {kvs : List (PV × PV)} {y : PV} {k : List Key} {h : VH} (e : h[i]? = some (.dic true kvs)) (ek : pT y = some k) : dgetO (.ref i) y h = some (dVal pT kvs k) := by simp [dgetO, dicOf_ref e, ek]
section
variable {K : Kc} {g : Gh} {h : VH} {H : Hp}
theorem pK_run {n : Nat} {y : PV} {v : V} {k : Key} (r : Rep K g n y v) (e : pK y = some k) : v = kV k := by
  cases y with
  | int i => simp only [Rep] at r; cases e; exact r
  | str i => simp only [Rep] at r; cases e; exact r
  | _ => cases e
theorem pKs_run {n : Nat} : ∀ {xs : List PV} {us : List V} {ks : List Key}, Reps K g n xs us → pKs xs = some ks → us = ks.map kV
  | [], _, ks, r, e => by simp only [Reps] at r; subst r; cases e; rfl
  | x :: xs, _, ks, r, e => by
    simp only [Reps] at r
    obtain ⟨u, us, rfl, a, b⟩ := r
    unfold pKs at e
    cases e1 : pK x with
    | none => rw [e1] at e; cases e
    | some k =>
      cases e2 : pKs xs with
      | none => rw [e1, e2] at e; cases e
      | some ks' =>
        rw [e1, e2] at e
        cases e
        rw [pK_run a e1, pKs_run b e2]; rfl
theorem pT_run {n : Nat} {y : PV} {v : V} {ks : List Key} (r : Rep K g n y v) (rh : Same g.Hf H) (e : pT y = some ks) : ∃ b, v = .ref b ∧ H b = some (.tup (ks.map kV)) := by
  cases y with
  | tup xs =>
    simp only [Rep] at r
    obtain ⟨a, us, rfl, s, r⟩ := r
    have := pKs_run r e
    subst this
    exact ⟨a, rfl, rh _ _ s⟩
  | _ => cases e
theorem dicOf_run {x : PV} {u : V} {i : Nat} {t : Bool} {kvs : List (PV × PV)} (rx : Rep K g h.length x u) (rh : RelH K g h H) (e : dicOf x h = some (i, t, kvs)) :
    x = .ref i ∧ h[i]? = some (.dic t kvs) ∧ u = .ref (g.ρ i) ∧ ∃ o, H (g.ρ i) = some o ∧ RepO K g h.length (.dic t kvs) o := by
  unfold dicOf at e
  split at e
  · split at e
    · rename_i j t' kvs' e2
      cases e
      simp only [Rep] at rx
      obtain ⟨o, ho, ro⟩ := rh.cell _ _ e2 (by intro z; cases z)
      exact ⟨rfl, e2, rx.2, o, ho, ro⟩
    · cases e
  · cases e
theorem dget_run {x y : PV} {u v : V} {o : Option PV} (rx : Rep K g h.length x u) (ry : Rep K g h.length y v) (rh : RelH K g h H) (e : dgetO x y h = some o) :
    ∃ a o', u = .ref a ∧ DGet H a v o' ∧ (∀ z, o = some z → ∃ w, o' = some w ∧ Rep K g h.length z w) ∧ (o = none → o' = none) := by
  unfold dgetO at e
  split at e
  · rename_i i kvs e0
    obtain ⟨rfl, e1, rfl, ob, hb, ro⟩ := dicOf_run rx rh e0
    obtain ⟨us, rfl, rd⟩ := ro
    cases ek : pK y with
    | none => rw [ek] at e; cases e
    | some k =>
      rw [ek] at e
      cases e
      rw [pK_run ry ek]
      exact ⟨_, _, rfl, DGet.k hb, (RepD.val rd).1, (RepD.val rd).2⟩
  · rename_i i kvs e0
    obtain ⟨rfl, e1, rfl, ob, hb, ro⟩ := dicOf_run rx rh e0
    obtain ⟨us, rfl, rd⟩ := ro
    cases ek : pT y with
    | none => rw [ek] at e; cases e
    | some k =>
      rw [ek] at e
      cases e
      obtain ⟨b, rfl, eb⟩ := pT_run ry rh.same ek
      exact ⟨_, _, rfl, DGet.t hb eb, (RepD.val rd).1, (RepD.val rd).2⟩
  · cases e
end
def dgetP (x y : PV) (h : VH) : Res PV := match dgetO x y h with
  | some (some v) => .ok v h
  | _ => .bad
def dinP (neg : Bool) (y x : PV) (h : VH) : Res PV := match dgetO x y h with
  | some o => .ok (.bl (if neg then !o.isSome else o.isSome)) h
  | none => .bad
theorem dgetP_ok {x y v : PV} {h : VH} (e : dgetO x y h = some (some v)) : dgetP x y h = .ok v h := by simp [dgetP, e]
theorem dinP_ok {neg : Bool} {x y : PV} {o : Option PV} {h : VH} (e : dgetO x y h = some o) : dinP neg y x h = .ok (.bl (if neg then !o.isSome else o.isSome)) h := by simp [dinP, e]
/-- d[y] = v -/
def dputP (x y v : PV) (h : VH) : Res Unit := match dicOf x h with
  | some (i, false, kvs) => match pK y with
    | some k => if kvs.length < 16777216 then .ok () (h.set i (.dic false (dPut pK kvs k y v))) else .bad
    | none => .bad
  | some (i, true, kvs) => match pT y with
    | some k => if kvs.length < 16777216 then .ok () (h.set i (.dic true (dPut pT kvs k y v))) else .bad
    | none => .bad
  | none => .bad
theorem dputP_k {i : Nat} {kvs : List (PV × PV)} {y v : PV} {k : Key} {h : VH} (e : h[i]? = some (.dic false kvs)) (ek : pK y = some k) (z : kvs.length < 16777216) : dputP (.ref i) y v h = .ok () (h.set i (.dic false (dPut pK kvs k y v))) := by
  simp [dputP, dicOf_ref e, ek, z]
theorem dputP_t {i : Nat} {kvs : List (PV × PV)} {y v : PV} {k : List Key} {h : VH} (e : h[i]? = some (.dic true kvs)) (ek : pT y = some k) (z : kvs.length < 16777216) : dputP (.ref i) y v h = .ok () (h.set i (.dic true (dPut pT kvs k y v))) := by
  simp [dputP, dicOf_ref e, ek, z]
section
variable {c : Ck} {X : Cx} {W : WX} {pos pos' : Pos} {o i e value : Expr} {md mk mv mz : EM}
theorem un2 {k : Nat} {A : Around} (h : L2.Room k A) : A.units + 1 < cLine := by have := h.un; omega
theorem SE.dget (hu : X.A.units + 1 < cLine) (ho : SE c X W o md) (hi : SE c X W i mk) (hs : NoSl i := by intro _ _; rfl) : SE c X W (.Subscript o i pos) (eBin dgetP md mk) := by
  obtain ⟨td, pd, sd⟩ := ho
  obtain ⟨tk, pk, sk⟩ := hi
  refine ⟨_, pe_dget hu pd pk hs, fun g σ h τ H Q rs rh q => ?_⟩
  refine two_run sd sk rs rh q fun g h H x y u v rx ry rh p => ?_
  unfold dgetP at p
  split at p
  · rename_i z ez
    obtain ⟨a, o', rfl, dg, f1, _⟩ := dget_run rx ry rh ez
    obtain ⟨w, rfl, rw'⟩ := f1 z rfl
    exact ⟨a, w, rfl, dg, p g w H (Gh.le.refl _ _) (Nat.le_refl _) rh rw'⟩
  · exact p.elim
theorem SE.din (hu : X.A.units + 1 < cLine) (hi : SE c X W i mk) (ho : SE c X W o md) (hm : behindInMarks .In o = false) : SE c X W (.Compare i [.In] [o] pos) (eBin (dinP false) mk md) := by
  obtain ⟨td, pd, sd⟩ := ho
  obtain ⟨tk, pk, sk⟩ := hi
  refine ⟨_, pe_cmp (pc_din hu pk pd) hm, fun g σ h τ H Q rs rh q => ?_⟩
  refine two_run sk sd rs rh q fun g h H y x v u ry rx rh p => ?_
  unfold dinP at p
  split at p
  · rename_i z ez
    obtain ⟨a, o', rfl, dg, f1, f2⟩ := dget_run rx ry rh ez
    refine ⟨a, o', rfl, dg, ?_⟩
    have : o'.isSome = z.isSome := by
      cases z with
      | none => rw [f2 rfl]; rfl
      | some z => obtain ⟨w, rfl, _⟩ := f1 z rfl; rfl
    rw [this]
    exact p g _ H (Gh.le.refl _ _) (Nat.le_refl _) rh (by simp only [Rep]; simp)
  · exact p.elim
theorem SE.dnin (hu : X.A.units + 1 < cLine) (hi : SE c X W i mk) (ho : SE c X W o md) (hm : behindInMarks .NotIn o = false) : SE c X W (.Compare i [.NotIn] [o] pos) (eBin (dinP true) mk md) := by
  obtain ⟨td, pd, sd⟩ := ho
  obtain ⟨tk, pk, sk⟩ := hi
  refine ⟨_, pe_cmp (pc_dnotin hu pk pd) hm, fun g σ h τ H Q rs rh q => ?_⟩
  refine two_run sk sd rs rh q fun g h H y x v u ry rx rh p => ?_
  unfold dinP at p
  split at p
  · rename_i z ez
    obtain ⟨a, o', rfl, dg, f1, f2⟩ := dget_run rx ry rh ez
    refine ⟨a, o', rfl, dg, ?_⟩
    have : o'.isSome = z.isSome := by
      cases z with
      | none => rw [f2 rfl]; rfl
      | some z => obtain ⟨w, rfl, _⟩ := f1 z rfl; rfl
    rw [this]
    exact p g _ H (Gh.le.refl _ _) (Nat.le_refl _) rh (by simp only [Rep]; simp)
  · exact p.elim
theorem asB_two {R : V → V → Hp → Prop} {g : Gh} {h : VH} {Q : Bool → Hp → Prop} {E : XK} {r : Res PV} (p : Post (kx c X) RepB g h.length Q E (r.bind asB)) : Post (kx c X) (Rep (kx c X)) g h.length (fun x H' => ∃ k, x = .bl k ∧ Q k H') E r := by
  exact (Post.bind p).imp (fun u H1 ⟨g1, x, h1, m1, p1⟩ => asB_run m1.rep m1.rel p1) fun _ _ _ z => z
theorem ST.din (hu : X.A.units + 1 < cLine) (hi : SE c X W i mk) (ho : SE c X W o md) (hm : behindInMarks .In o = false) : ST c X W (.Compare i [.In] [o] pos) (tVal (eBin (dinP false) mk md)) := by
  obtain ⟨td, pd, sd⟩ := ho
  obtain ⟨tk, pk, sk⟩ := hi
  refine ⟨_, pt_cmp (pc_din hu pk pd) hm, fun g σ h τ H Q rs rh q => ?_⟩
  refine two_run (Q := fun x H' => ∃ k, x = .bl k ∧ Q k H') sk sd rs rh ((Post.bind q).imp (fun u H1 ⟨g1, x, h1, m1, p1⟩ => asB_run m1.rep m1.rel p1) fun _ _ _ z => z) fun g h H y x v u ry rx rh p => ?_
  unfold dinP at p
  split at p
  · rename_i z ez
    obtain ⟨a, o', rfl, dg, f1, f2⟩ := dget_run rx ry rh ez
    refine ⟨a, o', rfl, dg, ?_⟩
    have : o'.isSome = z.isSome := by
      cases z with
      | none => rw [f2 rfl]; rfl
      | some z => obtain ⟨w, rfl, _⟩ := f1 z rfl; rfl
    rw [this]
    exact p g _ H (Gh.le.refl _ _) (Nat.le_refl _) rh (by simp only [Rep]; simp)
  · exact p.elim
theorem ST.dnin (hu : X.A.units + 1 < cLine) (hi : SE c X W i mk) (ho : SE c X W o md) (hm : behindInMarks .NotIn o = false) : ST c X W (.Compare i [.NotIn] [o] pos) (tVal (eBin (dinP true) mk md)) := by
  obtain ⟨td, pd, sd⟩ := ho
  obtain ⟨tk, pk, sk⟩ := hi
  refine ⟨_, pt_cmp (pc_dnotin hu pk pd) hm, fun g σ h τ H Q rs rh q => ?_⟩
  refine two_run (Q := fun x H' => ∃ k, x = .bl k ∧ Q k H') sk sd rs rh ((Post.bind q).imp (fun u H1 ⟨g1, x, h1, m1, p1⟩ => asB_run m1.rep m1.rel p1) fun _ _ _ z => z) fun g h H y x v u ry rx rh p => ?_
  unfold dinP at p
  split at p
  · rename_i z ez
    obtain ⟨a, o', rfl, dg, f1, f2⟩ := dget_run rx ry rh ez
    refine ⟨a, o', rfl, dg, ?_⟩
    have : o'.isSome = z.isSome := by
      cases z with
      | none => rw [f2 rfl]; rfl
      | some z => obtain ⟨w, rfl, _⟩ := f1 z rfl; rfl
    rw [this]
    exact p g _ H (Gh.le.refl _ _) (Nat.le_refl _) rh (by simp only [Rep]; simp)
  · exact p.elim
/-- d.get(y, z) -/
def dget2P (x y z : PV) (h : VH) : Res PV := match dgetO x y h with
  | some o => .ok (o.getD z) h
  | none => .bad
def eDGet2 (md mk mz : EM) : EM := fun σ h => (md σ h).bind fun x h1 => match dicOf x h1 with
  | some _ => (mk σ h1).bind fun y h2 => (mz σ h2).bind fun z h3 => dget2P x y z h3
  | none => .bad
theorem SE.dget2 {f : Expr} {apos cpos : Pos} (hu : X.A.units + 1 < cLine) (ho : SE c X W o md) (hi : SE c X W i mk) (hz : SE c X W f mz) (m : M2 X o "get" apos i f cpos) : SE c X W (.Call (.Attribute o "get" apos) [i, f] [] cpos) (eDGet2 md mk mz) := by
  obtain ⟨td, pd, sd⟩ := ho
  obtain ⟨tk, pk, sk⟩ := hi
  obtain ⟨tz, pz, sz⟩ := hz
  refine ⟨_, pe_dget2 hu pd pk pz m, fun g σ h τ H Q rs rh q => ?_⟩
  refine sd g σ h τ H _ rs rh ((Post.bind q).imp (fun u H1 ⟨g1, x, h1, m1, q1⟩ => ?_) fun _ _ _ z => z)
  split at q1
  · rename_i dd e0
    obtain ⟨i0, t0, kvs0⟩ := dd
    obtain ⟨rfl, e1, rfl, ob, hb, ro⟩ := dicOf_run m1.rep m1.rel e0
    refine ⟨_, rfl, ?_, ?_⟩
    · cases t0 with
      | false => obtain ⟨us, rfl, _⟩ := ro; exact .inl ⟨us, .inl hb⟩
      | true => obtain ⟨us, rfl, _⟩ := ro; exact .inr ⟨us, .inl hb⟩
    · refine sk g1 σ h1 τ H1 _ (rs.mono m1.le m1.len) m1.rel ((Post.bind q1).imp (fun v H2 ⟨g2, y, h2, m2, q2⟩ => ?_) fun _ _ _ z => z)
      refine sz g2 σ h2 τ H2 _ (rs.mono (m1.le.trans m2.le m1.len) (Nat.le_trans m1.len m2.len)) m2.rel ((Post.bind q2).imp (fun w H3 ⟨g3, z, h3, m3, q3⟩ => ?_) fun _ _ _ z => z)
      unfold dget2P at q3
      split at q3
      · rename_i oo ez
        have rx : Rep (kx c X) g3 h3.length (.ref i0) (.ref (g1.ρ i0)) := m1.rep.mono (m2.le.trans m3.le m2.len) (Nat.le_trans m2.len m3.len)
        obtain ⟨a, o', ea, dg, f1, f2⟩ := dget_run rx (m2.rep.mono m3.le m3.len) m3.rel ez
        cases ea
        refine ⟨o', dg, ?_⟩
        cases oo with
        | none => rw [f2 rfl]; exact q3 g3 _ H3 (Gh.le.refl _ _) (Nat.le_refl _) m3.rel m3.rep
        | some zz => obtain ⟨w', rfl, rw'⟩ := f1 zz rfl; exact q3 g3 _ H3 (Gh.le.refl _ _) (Nat.le_refl _) m3.rel rw'
      · exact q3.elim
  · exact q1.elim
/-- d[y] = v, the statement -/
def sDPutM (md mk mv : EM) : SM := fun σ h => (mv σ h).then σ fun v h1 => (md σ h1).then σ fun x h2 => (mk σ h2).then σ fun y h3 => match dputP x y v h3 with
  | .ok _ h4 => .nx σ h4
  | _ => .bad
theorem S1.dput (hu : X.A.units + 1 < cLine) (ho : SE c X W o md) (hi : SE c X W i mk) (hv : SE c X W value mv) (hs : swapsWith value (some (.Subscript o i pos')) pos.line X.env = pure false := by rfl) : S1 c X W (.Assign [.Subscript o i pos'] value pos) (sDPutM md mk mv) := by
  obtain ⟨td, pd, sd⟩ := ho
  obtain ⟨tk, pk, sk⟩ := hi
  obtain ⟨tv, pv, sv⟩ := hv
  refine ⟨_, ps_dput hu pd pk pv hs, fun g σ h τ H D rs rh q => ?_⟩
  refine sv g σ h τ H _ rs rh ((PostS.then rs q).imp (fun w H1 ⟨g1, v, h1, m1, q1⟩ => ?_) fun _ _ _ z => z)
  have rs1 := rs.mono m1.le m1.len
  refine sd g1 σ h1 τ H1 _ rs1 m1.rel ((PostS.then rs1 q1).imp (fun u H2 ⟨g2, x, h2, m2, q2⟩ => ?_) fun _ _ _ z => z)
  have rs2 := rs1.mono m2.le m2.len
  refine sk g2 σ h2 τ H2 _ rs2 m2.rel ((PostS.then rs2 q2).imp (fun t H3 ⟨g3, y, h3, m3, q3⟩ => ?_) fun _ _ _ z => z)
  have rs3 := rs2.mono m3.le m3.len
  have rv : Rep (kx c X) g3 h3.length v w := m1.rep.mono (m2.le.trans m3.le m2.len) (Nat.le_trans m2.len m3.len)
  have rx : Rep (kx c X) g3 h3.length x u := m2.rep.mono m3.le m3.len
  unfold dputP at q3
  split at q3
  · rename_i r hh e9
    split at e9
    · rename_i i0 kvs e0
      split at e9
      · rename_i k ek
        split at e9
        · rename_i hl
          obtain ⟨rfl, e1, rfl, ob, hb, ro⟩ := dicOf_run rx m3.rel e0
          obtain ⟨us, rfl, rd⟩ := ro
          cases e9
          have ll : us.length < sizeLine := by rw [rd.length]; exact hl
          refine ⟨_, _, rfl, by rw [pK_run m3.rep ek]; exact DPut.k hb ll, ?_⟩
          exact q3 g3 τ _ (Gh.le.refl _ _) (by simp) (m3.rel.setc e1 (by intro z; cases z) ⟨_, rfl, rd.put ek rv⟩) (rs3.mono (Gh.le.refl _ _) (by simp))
        · cases e9
      · cases e9
    · rename_i i0 kvs e0
      split at e9
      · rename_i k ek
        split at e9
        · rename_i hl
          obtain ⟨rfl, e1, rfl, ob, hb, ro⟩ := dicOf_run rx m3.rel e0
          obtain ⟨us, rfl, rd⟩ := ro
          cases e9
          have ll : us.length < sizeLine := by rw [rd.length]; exact hl
          obtain ⟨b, rfl, eb⟩ := pT_run m3.rep m3.rel.same ek
          refine ⟨_, _, rfl, DPut.t hb eb ll, ?_⟩
          exact q3 g3 τ _ (Gh.le.refl _ _) (by simp) (m3.rel.setc e1 (by intro z; cases z) ⟨_, rfl, rd.put ek rv⟩) (rs3.mono (Gh.le.refl _ _) (by simp))
        · cases e9
      · cases e9
    · cases e9
  · exact q3.elim
/-- {} -/
def eDNew (t : Bool) : EM := fun _ h => .ok (.ref h.length) (h ++ [.dic t []])
theorem new_cell {g : Gh} {h : VH} {H : Hp} {Q : VK} {E : XK} {o : PO} {u : HO} (rh : RelH (kx c X) g h H) (ro : ∀ g n, RepO (kx c X) g n o u) (p : Post (kx c X) (Rep (kx c X)) g h.length Q E (.ok (.ref h.length) (h ++ [o]))) : ∀ q, H q = none → Q (.ref q) (upd H q u) := fun q nq => by
  have sm : Same H (upd H q u) := fun b o e => by rw [upd_ne (ne_of_none e nq)]; exact e
  obtain ⟨le, rh'⟩ := RelH.push (o := o) rh sm nq upd_same (ro _ _)
  refine p _ _ _ le (by simp) rh' ?_
  simp only [Rep]
  simp
theorem SE.dnew : ∀ t : Bool, SE c X W (.Dict [] [] pos) (eDNew t)
  | false => ⟨_, pe_dnewK, fun g σ h τ H Q rs rh q => new_cell (o := .dic false []) (u := .dK []) rh (fun g n => ⟨[], rfl, rfl⟩) q⟩
  | true => ⟨_, pe_dnewT, fun g σ h τ H Q rs rh q => new_cell (o := .dic true []) (u := .dT []) rh (fun g n => ⟨[], rfl, rfl⟩) q⟩
/-- {y: v} -/
def eDOne (mk mv : EM) : EM := fun σ h => (mk σ (h ++ [.dic false []])).bind fun y h1 => (mv σ h1).bind fun v h2 => match h2[h.length]?, pK y with
  | some (.dic false []), some _ => .ok (.ref h.length) (h2.set h.length (.dic false [(y, v)]))
  | _, _ => .bad
theorem SE.done {p1 : Expr} (hi : SE c X W i mk) (hv : SE c X W value mv) : SE c X W (.Dict [some i] [value] pos) (eDOne mk mv) := by
  obtain ⟨tk, pk, sk⟩ := hi
  obtain ⟨tv, pv, sv⟩ := hv
  refine ⟨_, pe_disp (pps_cons pk pv pps_nil) rfl rfl (by simp) (by simp), fun g σ h τ H Q rs rh q => ?_⟩
  intro p np
  have sm : Same H (upd H p (.dK [])) := fun b o e => by rw [upd_ne (ne_of_none e np)]; exact e
  obtain ⟨le, rh'⟩ := RelH.push (o := .dic false []) rh sm np upd_same ⟨[], rfl, rfl⟩
  have ln : h.length ≤ (h ++ [PO.dic false []]).length := by simp
  have q := Post.up q le ln
  have rs0 := rs.mono le ln
  refine sk _ σ _ τ _ _ rs0 rh' ((Post.bind q).imp (fun u H1 ⟨g1, y, h1, m1, q1⟩ => ?_) fun _ _ _ z => z)
  have rs1 := rs0.mono m1.le m1.len
  refine sv g1 σ h1 τ H1 _ rs1 m1.rel ((Post.bind q1).imp (fun w H2 ⟨g2, v, h2, m2, q2⟩ => ?_) fun _ _ _ z => z)
  show H2 p = some (.dK []) ∧ _
  split at q2
  · rename_i k e0 ek
    have lel := m1.le.trans m2.le m1.len
    have lnl := Nat.le_trans m1.len m2.len
    have ep : g2.ρ h.length = p := by rw [lel.rho h.length (by simp)]; simp
    obtain ⟨ob, hb, ro⟩ := m2.rel.cell _ _ e0 (by intro z; cases z)
    obtain ⟨us, rfl, rd⟩ := ro
    simp only [RepD] at rd
    subst rd
    rw [ep] at hb
    refine ⟨hb, [(k, w)], ?_, by simp, ?_⟩
    · have := pK_run (m1.rep.mono m2.le m2.len) ek
      rw [this]; rfl
    · have := q2 g2 (.ref p) (upd H2 p (.dK [(k, w)])) (Gh.le.refl _ _) (by simp) (by
        have := m2.rel.setc (o := .dic false [(y, v)]) (u := .dK [(k, w)]) e0 (by intro z; cases z) ⟨_, rfl, ⟨k, w, [], rfl, ek, m2.rep, rfl⟩⟩
        rwa [ep] at this) (by
        simp only [Rep]
        refine ⟨?_, by rw [ep]⟩
        rw [List.length_set]
        have := lnl; simp at this; omega)
      exact this
  · exact q2.elim
/-- sorted(d), list(d): the keys, numbers all -/
def dkI (x : PV) (h : VH) : Option (List Int) := match dicOf x h with
  | some (_, false, kvs) => intsOf (kvs.map (·.1))
  | _ => none
theorem dkI_ref {i : Nat} {kvs : List (PV × PV)} {ns : List Int} {h : VH} (e : h[i]? = some (.dic false kvs)) (z : kvs.map (·.1) = ns.map PV.int) : dkI (.ref i) h = some ns := by
  simp [dkI, dicOf_ref e, z]
def sortedDP (cell : Bool) (x : PV) (h : VH) : Res PV := match dkI x h with
  | some ns => if ns.length < 64 then mkL cell ((sortI ns).map PV.int) h else .bad
  | none => .bad
theorem sortedDP_ok {cell : Bool} {x : PV} {h : VH} {ns : List Int} (e : dkI x h = some ns) (z : ns.length < 64) : sortedDP cell x h = mkL cell ((sortI ns).map PV.int) h := by simp [sortedDP, e, z]
def listDP (cell : Bool) (x : PV) (h : VH) : Res PV := match dkI x h with
  | some ns => mkL cell (ns.map PV.int) h
  | none => .bad
theorem listDP_ok {cell : Bool} {x : PV} {h : VH} {ns : List Int} (e : dkI x h = some ns) : listDP cell x h = mkL cell (ns.map PV.int) h := by simp [listDP, e]
theorem repD_keys {K : Kc} {g : Gh} {n : Nat} : ∀ {kvs : List (PV × PV)} {us : List (Key × V)} {ns : List Int}, RepD K g n pK kvs us → kvs.map (·.1) = ns.map PV.int → us.map (·.1) = ns.map Sum.inl
  | [], _, ns, r, e => by
    simp only [RepD] at r
    subst r
    cases ns with
    | nil => rfl
    | cons _ _ => cases e
  | (y, x) :: xs, _, ns, r, e => by
    simp only [RepD] at r
    obtain ⟨k', u, r, rfl, ek, a, b⟩ := r
    cases ns with
    | nil => cases e
    | cons i ns =>
      simp only [List.map_cons, List.cons.injEq] at e
      obtain ⟨rfl, e⟩ := e
      cases ek
      simp only [List.map_cons, repD_keys b e]
theorem dkI_run {x : PV} {u : V} {ns : List Int} {g : Gh} {h : VH} {H : Hp} (rx : Rep (kx c X) g h.length x u) (rh : RelH (kx c X) g h H) (e : dkI x h = some ns) : ∃ a us, u = .ref a ∧ H a = some (.dK us) ∧ us.map (·.1) = ns.map Sum.inl := by
  unfold dkI at e
  split at e
  · rename_i i kvs e0
    obtain ⟨rfl, e1, rfl, ob, hb, ro⟩ := dicOf_run rx rh e0
    obtain ⟨us, rfl, rd⟩ := ro
    exact ⟨_, us, rfl, hb, repD_keys rd (intsOf_eq e)⟩
  · cases e
def rSortedDI : List V → Hp → VK → Prop := fun xs H Q => ∃ (a : Addr) (kvs : List (Key × V)) (ks : List Int), xs = [.ref a] ∧ Rd H a (.dK kvs) ∧ kvs.map (·.1) = ks.map Sum.inl ∧ ks.length < 64 ∧
    ∀ (ys : List Int) (p : Addr), ys.Perm ks → ys.Pairwise (· ≤ ·) → H p = none → Q (.ref p) (upd H p (.lst (ys.map V.int)))
theorem cr_sortedDI (hc : X.calm = true) : CallR X (.builtin "sorted") rSortedDI := call_sortedDI hc
theorem sortedDS (cell : Bool) : CallS c X rSortedDI (one (sortedDP cell)) := fun g h H xs us Q E r rh p => by
  obtain ⟨x, u, rfl, rfl, rx, p⟩ := one_run r p
  unfold sortedDP at p
  split at p
  · rename_i ns e
    split at p
    · rename_i z
      obtain ⟨a, us, rfl, hd, ek⟩ := dkI_run rx rh e
      refine ⟨a, us, ns, rfl, .inl hd, ek, z, fun ys q hp hs nq => ?_⟩
      have : ys = sortI ns := sorted_uniq (hp.trans (sortI_perm ns).symm) hs (sortI_le ns)
      rw [this]
      exact mkL_new rh (Reps.ints _) p q nq
    · exact p.elim
  · exact p.elim
def rListDI : List V → Hp → VK → Prop := fun xs H Q => ∃ (a : Addr) (kvs : List (Key × V)), xs = [.ref a] ∧ Rd H a (.dK kvs) ∧ ∀ p, H p = none → Q (.ref p) (upd H p (.lst (kvs.map fun kv => kV kv.1)))
theorem cr_listDI (hc : X.calm = true) : CallR X (.type "list") rListDI := call_listD hc
theorem listDS (cell : Bool) : CallS c X rListDI (one (listDP cell)) := fun g h H xs us Q E r rh p => by
  obtain ⟨x, u, rfl, rfl, rx, p⟩ := one_run r p
  unfold listDP at p
  split at p
  · rename_i ns e
    obtain ⟨a, us, rfl, hd, ek⟩ := dkI_run rx rh e
    refine ⟨a, us, rfl, .inl hd, fun q nq => ?_⟩
    have : (us.map fun kv => kV kv.1) = ns.map V.int := by
      rw [show (us.map fun kv => kV kv.1) = (us.map (·.1)).map kV by rw [List.map_map]; rfl, ek, List.map_map]; rfl
    rw [this]
    exact mkL_new rh (Reps.ints _) p q nq
  · exact p.elim
end
end Pm
namespace Pm
open PySem PySem.Spec L2 PyProof.Rows
/-! ### a def under another name -/
structure Fa (K : PySem.W.Frag) (mg : Str → Option Value) (z x qual : Str) (st : Stmt) (ps : List Str) (f : Addr) (fd : FuncData) : Prop where
  F : Fun K x qual st f fd
  b : Binds K fd ps []
  m : mg z = some (.ref f)
theorem Fa.mk' {K : PySem.W.Frag} {h : Heap} {mg : Str → Option Value} {z x qual : Str} {st : Stmt} {ps : List Str} {f : Addr} {oc : Value} {od an : Option Addr} {osl : Array (Option Value)} {kV doc pm cdv ct : Value} (X : K.In h) (G : h.Ns mainGlobals mg) (a : PySem.W.nsIn K mainGlobals z = some (some (.ref f)))
    (l : K.lookup f = some ⟨oc, od, .func (PySem.W.fnOf x qual (defArgs st) (defBody st) (defScope st) .none kV doc pm an cdv ct), osl⟩)
    (k1 : PySem.W.codeIn K cdv qual = true) (k2 : PySem.W.keepIn K (.ref f) = true)
    (hb : ∀ (kV doc pm : Value) (an : Option Addr) (cdv ct : Value) (us : List Value), us.length = ps.length → bindArgs (PySem.W.fnOf x qual (defArgs st) (defBody st) (defScope st) .none kV doc pm an cdv ct) ⟨us, []⟩ = pure (ps.zip us)) :
    Fa K mg z x qual st ps f (PySem.W.fnOf x qual (defArgs st) (defBody st) (defScope st) .none kV doc pm an cdv ct) := by
  have F := fun_mk (st := st) l k1 k2
  exact ⟨F, F.binds hb, PySem.W.mg_of X G a⟩
/-! ### isinstance(e, (A, B, ..)) in an except suite -/
def rIsDT (K : PySem.W.Frag) (D a dd : Addr) : List V → Hp → VK → Prop := fun xs H Q => ∃ (tp : Addr) (cs : List V) (us : List Value) (b : Bool) (gs : List (Str × V)), xs = [.ref a, .ref tp] ∧ H tp = some (.tup cs) ∧ Paired ClsV cs us ∧ H dd = some (.xd gs) ∧ PySem.W.kitAny K (.ref D) us = some b ∧ Q (.bl b) H
theorem call_isDT {X : Cx} {a D dd : Addr} {oe : Obj} {pn : List (Addr × Obj)} (C : ExcC X.K D) (hz : Zc (.ref D) (some dd) oe) (hf : ∃ vs, oe.data = .fields vs) : CallR (X.suite a ((a, oe) :: pn)) (.builtin "isinstance") (rIsDT X.K D a dd) := by
  intro pins s σ H xs us Q I r h
  obtain ⟨tp, cs, ws, b, gs, rfl, hT, k, hd, e, q⟩ := h
  obtain ⟨u1, u2, rfl, rx, rt⟩ := vals2 r
  cases rx
  cases (show u2 = Value.ref tp from rt)
  obtain ⟨_, its, rv, o, h1, h2, n, h3⟩ := (show ObjOk X.prog X.w H s.heap tp (.tup cs) from I.hok tp _ hT)
  have e3 := ClsV.all k rv
  subst e3
  obtain ⟨oc', od', dt, sl⟩ := o
  simp only at h2 h3
  subst h2 h3
  obtain ⟨hget, _⟩ := I.pin (a, oe) (List.mem_append.mpr (.inl List.mem_cons_self))
  obtain ⟨vs, hv⟩ := hf
  obtain ⟨mA, hns, hr⟩ := (show ObjOk X.prog X.w H s.heap dd (.xd gs) from I.hok dd _ hd)
  obtain ⟨od, ho, hl⟩ := lookIn_ns hns
  have J : PySem.W.InstAt s.heap a oe D (some od) := by
    obtain ⟨oc, odd, oda, osl⟩ := oe
    obtain ⟨h1, h2⟩ := hz
    dsimp only at h1 h2 hv
    subst h1 h2 hv
    exact ⟨hget, rfl, rfl, ho⟩
  exact PySem.W.kia_tup (PySem.W.pm_kitD C) I.kIn J h1 e (fun z => nomatch z) fun tk => ⟨.bl b, H, I.kept (t' := tk) fun _ _ z => z, rfl, q⟩
def atAll (t : Tab) (a : Tk) : List Tk → Option Bool
  | [] => some false
  | T :: Ts => match t.at' a T, atAll t a Ts with
    | some b, some r => some (b || r)
    | _, _ => none
def eIsxT (t : Tab) (e : PX) (i : Nat) (Ts : List Tk) : EM := fun σ h => match σ[i]?, atAll t (.cls e.C) Ts with
  | some (some .exn), some b => .ok (.bl b) h
  | _, _ => .bad
theorem eIsxT_def (t : Tab) (e : PX) (i : Nat) (Ts : List Tk) (σ : LS) (h : VH) : eIsxT t e i Ts σ h = (match σ[i]?, atAll t (.cls e.C) Ts with
  | some (some .exn), some b => .ok (.bl b) h
  | _, _ => .bad) := (rfl)
/-- the classes named -/
def HTs (c : Ck) (X : Cx) (es : List Expr) (Ts : List Tk) : Prop := ∃ (t : TA) (cs : List V), PA X es t ∧ (∀ τ H Q, Q cs H → t τ H Q) ∧ Paired ClsV cs (Ts.map (tkV c))
section
variable {c : Ck} {X : Cx} {W : WX}
theorem hts_nil : HTs c X [] [] := by
  refine ⟨_, [], pa_nil, fun τ H Q q => ?_, .nil⟩
  exact q
theorem hts_cons {e : Expr} {es : List Expr} {T : Tk} {Ts : List Tk} (h : ∃ v, PE X e (tC v) ∧ ClsV v (tkV c T)) (hs : HTs c X es Ts) (hst : starEach (e :: es) X.env = (false, eval e X.env) :: starEach es X.env := by rfl) : HTs c X (e :: es) (T :: Ts) := by
  obtain ⟨v, pv, cv⟩ := h
  obtain ⟨t, cs, pa, k, pr⟩ := hs
  exact ⟨_, v :: cs, pa_cons pv pa hst, fun τ H Q q => k τ H _ q, .cons cv pr⟩
end
section
variable {c : Ck} {X : Cx} {W : WX} {a dd : Addr} {oe : Obj} {pn : List (Addr × Obj)} {e : PX} {x : Str} {p pos q2 : Pos}
theorem SE.isxT {t : Tab} {T : Tk} {Ts : List Tk} {tcs : List Expr} {k : Nat} {q1 : Pos} (i : Nat) (XT : XTab c X.K t) (hz : Zc (.ref (c e.C)) (some dd) oe) (hfd : ∃ vs, oe.data = .fields vs) (hg : Gl X "isinstance") (hm : X.mg "isinstance" = none)
    (ht : HTs c (X.suite a ((a, oe) :: pn)) tcs (T :: Ts)) (hN : X.N[i]? = some x := by rfl) (hv : Vis X.env.scope x := by first | exact Or.inl rfl | exact Or.inr (Or.inl rfl) | exact Or.inr (Or.inr rfl)) (hdb : (x == ("__debug__" : Str)) = false := by decide)
    (hcd : (x == ("__classdict__" : Str)) = false := by decide) (h1 : starEach [.Name x p, .Tuple tcs k q2] X.env = (false, eval (.Name x p) X.env) :: starEach [.Tuple tcs k q2] X.env := by rfl) (h2 : starEach [.Tuple tcs k q2] X.env = (false, eval (.Tuple tcs k q2) X.env) :: starEach [] X.env := by rfl) (hpl : (backTo pos (starEach [.Tuple tcs k q2] X.env)).any (·.1) = false := by rfl) (h16 : decide ((T :: Ts).length ≤ 16777216) = true := by decide) :
    SE (c.exc a dd e) (X.suite a ((a, oe) :: pn)) W (.Call (.Name "isinstance" q1) [.Name x p, .Tuple tcs k q2] [] pos) (eIsxT t e i (T :: Ts)) := by
  obtain ⟨tt, cs, pa, kk, pr⟩ := ht
  have all : ∀ (Ts : List Tk) (b : Bool), atAll t (.cls e.C) Ts = some b → PySem.W.kitAny X.K (.ref (c e.C)) (Ts.map (tkV c)) = some b := by
    intro Ts
    induction Ts with
    | nil => intro b h; cases h; rfl
    | cons T Ts ih =>
      intro b h
      unfold atAll at h
      cases h1 : t.at' (.cls e.C) T with
      | none => rw [h1] at h; cases h
      | some b1 =>
        cases h2 : atAll t (.cls e.C) Ts with
        | none => rw [h1, h2] at h; cases h
        | some r =>
          rw [h1, h2] at h
          have h := Option.some.inj h
          subst h
          have k1 := XT.kit _ (Tab.at_mem h1)
          have k2 := ih r h2
          cases b1 with
          | true => exact kitAny_cons k1 (fun z => nomatch z) fun _ => by simp
          | false => exact kitAny_cons k1 (fun _ => by simpa using k2) (fun z => nomatch z)
  cases hk : atAll t (.cls e.C) (T :: Ts) with
  | none =>
    refine ⟨fun _ _ _ => False, ⟨fun _ _ _ _ _ _ z => z.elim⟩, fun g σ h τ H Q rs rh q => ?_⟩
    rw [eIsxT_def, hk] at q
    split at q
    · rename_i z; cases z
    · exact q.elim
  | some b =>
    have C : ExcC X.K (c e.C) := by
      unfold atAll at hk
      cases h1 : t.at' (.cls e.C) T with
      | none => rw [h1] at hk; cases hk
      | some b1 => exact XT.exc _ (Tab.at_mem h1) _ rfl
    have k1 := all _ b hk
    refine ⟨_, pe_callB (X := X.suite a ((a, oe) :: pn)) (call_isDT C hz hfd) hg hm PyProof.Rows.boot_isinstance (pa_cons (pe_var (X := X.suite a ((a, oe) :: pn)) (i := i) hN hv hdb hcd) (pa_cons (pe_tup pa) pa_nil h2) h1) (by decide) (by decide) h1 hpl, fun g σ h τ H Q rs rh q => ?_⟩
    rw [eIsxT_def, hk] at q
    split at q
    · rename_i w e1 e2
      cases e2
      obtain ⟨u, e3, r⟩ := rs.get i .exn e1
      simp only [Rep] at r
      obtain ⟨a', d', e', z, rfl⟩ := r
      cases z
      obtain ⟨gs, hgs, rf⟩ := rh.ex a dd e rfl
      refine ⟨_, e3, kk _ _ _ ⟨?_, fun tp np => ?_⟩⟩
      · have : cs.length = (T :: Ts).length := by rw [Paired.length pr, List.length_map]
        rw [this, sizeLine_eq]; exact of_decide_eq_true h16
      · obtain ⟨le, rh'⟩ := RelH.frz (o := .tup cs) rh np
        have hd : upd H tp (.tup cs) dd = some (.xd gs) := by
          have := rh.same _ _ hgs
          rw [upd_ne (ne_of_none this np)]; exact this
        exact ⟨tp, cs, _, b, gs, rfl, upd_same, pr, hd, k1, q _ _ _ le (Nat.le_refl _) rh' repB⟩
    · exact q.elim
end
end Pm
namespace Pm
open PySem PySem.Spec L2 PyProof.Rows
/-! ### calls with keywords, in the parameters' order -/
structure KBd (K : PySem.W.Frag) (fd : FuncData) (ps : List Str) (n : Nat) (ks : List Str) : Prop where
  to : ∀ (s : Shared) (us ws : List Value), us.length = n → ws.length = ks.length → BindsTo s fd ⟨us, ks.zip ws⟩ (ps.zip (us ++ ws))
section
variable {c : Ck} {X : Cx} {W : WX} {k n : Nat} {f C : Addr} {fd : FuncData} {ps ks : List Str} {m : List PV → VH → Res PV} {x mn : Str} {p pos apos kpos : Pos} {e o : Expr} {es : List Expr} {kws : List Keyword} {ms : AM} {mo me : EM} {nm : Option Str}
theorem run_fnGK {sp : Sp} {E : XK} {pins : List (Addr × Obj)} {τ : L2.St} {H : Hp} {s : Shared} {Q : VK} {us ws : List Value} {vs zs : List V} (F : FnG X.prog X.w X.K X.mg X.base k f fd ps sp) (room : Room k X.A) (gd : X.A.guards = some []) (bi : KBd X.K fd ps n ks)
    (px : PassesAt (L2.CX X.prog X.w) X τ E) (I : Inv X pins τ H s) (r : Vals vs us) (rz : Vals zs ws) (l1 : vs.length = n) (l2 : zs.length = ks.length) (h : sp (vs ++ zs) H Q E) : wpAny (model X.prog X.w) X.A (call (.ref f) us (ks.zip ws)) (EP X pins τ Q) X.xe s := by
  have r2 : Vals (vs ++ zs) (us ++ ws) := Vals.append r rz
  refine wpAny_call (codeAny_mono (F.run X.A X.stack s H ⟨us, ks.zip ws⟩ (us ++ ws) (vs ++ zs) Q E room gd I.env0 (bi.to s us ws (r.length.symm.trans l1) (rz.length.symm.trans l2)) r2 h) fun res s' hq => ?_)
  cases res with
  | error e => exact px pins H s e s' I hq
  | ok fl =>
    cases fl with
    | ret u => exact I.after hq
    | next => exact hq.elim
    | brk => exact hq.elim
    | cont => exact hq.elim
def tCallKW (n m : Nat) (sp : Sp) (E : L2.St → XK) (t tk : TA) : TE := fun τ H Q => t τ H fun vs H1 => tk τ H1 fun zs H2 => vs.length = n ∧ zs.length = m ∧ sp (vs ++ zs) H2 Q (E τ)
theorem pe_callGK {sp : Sp} {E : L2.St → XK} {t tk : TA} (F : FnG X.prog X.w X.K X.mg X.base k f fd ps sp) (room : Room k X.A) (gd : X.A.guards = some []) (hg : Gl X x) (hm : X.mg x = some (.ref f)) (hk : PySem.W.keepIn X.K (.ref f) = true) (bi : KBd X.K fd ps n ks)
    (px : ∀ τ, PassesAt (L2.CX X.prog X.w) X τ (E τ)) (pa : PA X (e :: es) t) (pk : PK X kws tk) (hall : (backToKw pos (keywordEach kws X.env)).all (·.1.isSome) = true) (hks : (backToKw pos (keywordEach kws X.env)).filterMap (·.1) = ks)
    (hdb : (x == ("__debug__" : Str)) = false) (st : starEach (e :: es) X.env = (false, eval e X.env) :: starEach es X.env) (pl : ((backTo pos (starEach (e :: es) X.env)).any (·.1) || (backToKw pos (keywordEach kws X.env)).any (·.1.isNone)) = false) :
    PE X (.Call (.Name x p) (e :: es) kws pos) (tCallKW n ks.length sp E t tk) := by
  refine ⟨fun pins s τ H Q I h => wpAny_Call_Name_kw (ld_glob I hg hm ?_ hdb)⟩
  refine PySem.W.callWith_KW (h₀ := X.base) I.ok.mod.kin hk hall (thn (pa.run pos pins s τ H _ I h) fun us s1 ⟨vs, H1, I1, r, q⟩ => ?_) pl st
  refine thn (pk.run pos pins s1 τ H1 _ I1 q) fun ws s2 ⟨zs, H2, I2, rz, l1, l2, q2⟩ => ⟨I2.kIn, ?_⟩
  rw [hks]
  exact run_fnGK F room gd bi (px τ) I2 r rz l1 l2 q2
theorem pe_callGK0 {sp : Sp} {E : L2.St → XK} {tk : TA} (F : FnG X.prog X.w X.K X.mg X.base k f fd ps sp) (room : Room k X.A) (gd : X.A.guards = some []) (hg : Gl X x) (hm : X.mg x = some (.ref f)) (hk : PySem.W.keepIn X.K (.ref f) = true) (bi : KBd X.K fd ps 0 ks)
    (px : ∀ τ, PassesAt (L2.CX X.prog X.w) X τ (E τ)) (pk : PK X kws tk) (hall : (backToKw pos (keywordEach kws X.env)).all (·.1.isSome) = true) (hks : (backToKw pos (keywordEach kws X.env)).filterMap (·.1) = ks)
    (hdb : (x == ("__debug__" : Str)) = false) (pl : ((backTo pos (starEach [] X.env)).any (·.1) || (backToKw pos (keywordEach kws X.env)).any (·.1.isNone)) = false) :
    PE X (.Call (.Name x p) [] kws pos) (tCallKW 0 ks.length sp E tNil tk) := by
  refine ⟨fun pins s τ H Q I h => wpAny_Call_Name_kw (ld_glob I hg hm ?_ hdb)⟩
  refine PySem.W.callWith_KW0 (h₀ := X.base) I.ok.mod.kin hk hall ?_ pl
  refine thn (pk.run pos pins s τ H _ I h) fun ws s2 ⟨zs, H2, I2, rz, l1, l2, q2⟩ => ⟨I2.kIn, ?_⟩
  rw [hks]
  exact run_fnGK (us := []) (vs := []) F room gd bi (px τ) I2 .nil rz rfl l2 q2
/-- the keywords' values -/
def SKW (c : Ck) (X : Cx) (W : WX) (kws : List Keyword) (ms : AM) : Prop := (∀ σ h xs h', ms σ h = .ok xs h' → xs.length = kws.length) ∧ ∃ tk, PK X kws tk ∧ ∀ g σ h τ H Q, RelS (kx c X) g h.length σ τ → RelH (kx c X) g h H → Post (kx c X) (Reps (kx c X)) g h.length Q (at_ W τ) (ms σ h) → tk τ H Q
theorem SKW.nil : SKW c X W [] aNil := ⟨fun σ h xs h' e => by cases e; rfl, _, pk_nil, fun g σ h τ H Q rs rh p => p g [] H (Gh.le.refl _ _) (Nat.le_refl _) rh Reps.nil⟩
theorem SKW.cons (he : SE c X W e me) (hs : SKW c X W kws ms) : SKW c X W (⟨nm, e, kpos⟩ :: kws) (aCons me ms) := by
  obtain ⟨te, pe, se⟩ := he
  obtain ⟨la, t, pk, sk⟩ := hs
  refine ⟨fun σ h xs h' z => ?_, _, pk_cons pe pk, fun g σ h τ H Q rs rh q => ?_⟩
  · rw [aCons_def] at z
    cases r : me σ h with
    | ok x h1 =>
      rw [r] at z
      simp only [Res.bind_ok] at z
      cases r2 : ms σ h1 with
      | ok ys h2 => rw [r2] at z; cases z; simp [la _ _ _ _ r2]
      | exc _ _ => rw [r2] at z; cases z
      | bad => rw [r2] at z; cases z
    | exc _ _ => rw [r] at z; cases z
    | bad => rw [r] at z; cases z
  · refine se g σ h τ H _ rs rh ((Post.bind q).imp (fun u H1 ⟨g1, x, h1, m1, q1⟩ => ?_) fun _ _ _ z => z)
    refine sk g1 σ h1 τ H1 _ (rs.mono m1.le m1.len) m1.rel ((Post.bind (R := Reps (kx c X)) q1).imp (fun us H2 ⟨g2, ys, h2, m2, q2⟩ => ?_) fun _ _ _ z => z)
    exact q2 g2 (u :: us) H2 (Gh.le.refl _ _) (Nat.le_refl _) m2.rel (Reps.cons (m1.rep.mono m2.le m2.len) m2.rep)
/-- all values of a call -/
def SAK (c : Ck) (X : Cx) (W : WX) (es : List Expr) (kws : List Keyword) (ms : AM) : Prop := (∀ σ h xs h', ms σ h = .ok xs h' → xs.length = es.length + kws.length) ∧ ∃ t tk, (es = [] → t = tNil) ∧ PA X es t ∧ PK X kws tk ∧ ∀ g σ h τ H Q, RelS (kx c X) g h.length σ τ → RelH (kx c X) g h H →
  Post (kx c X) (Reps (kx c X)) g h.length Q (at_ W τ) (ms σ h) → t τ H fun vs H1 => tk τ H1 fun zs H2 => vs.length = es.length ∧ zs.length = kws.length ∧ Q (vs ++ zs) H2
theorem Post.withLen {K : Kc} {g : Gh} {n l : Nat} {Q : List V → Hp → Prop} {E : XK} {r : Res (List PV)} (h : Post K (Reps K) g n Q E r) (hl : ∀ xs h', r = .ok xs h' → xs.length = l) : Post K (Reps K) g n (fun us H => us.length = l ∧ Q us H) E r := by
  cases r with
  | ok xs h' => exact fun g' us H' l' hn rh ru => ⟨by rw [ru.length]; exact hl _ _ rfl, h g' us H' l' hn rh ru⟩
  | exc e h' => exact h
  | bad => exact h
theorem SAK.kw (hs : SKW c X W kws ms) : SAK c X W [] kws ms := by
  obtain ⟨la, tk, pk, sk⟩ := hs
  refine ⟨fun σ h xs h' z => by rw [la σ h xs h' z]; simp, tNil, tk, fun _ => rfl, pa_nil, pk, fun g σ h τ H Q rs rh q => ?_⟩
  show tk τ H fun zs H2 => _
  exact sk g σ h τ H _ rs rh ((Post.withLen q (fun xs h' z => la σ h xs h' z)).imp (fun us H1 ⟨a, b⟩ => ⟨rfl, a, by simpa using b⟩) fun _ _ _ z => z)
theorem SAK.cons (he : SE c X W e me) (hs : SAK c X W es kws ms) (hst : starEach (e :: es) X.env = (false, eval e X.env) :: starEach es X.env := by rfl) : SAK c X W (e :: es) kws (aCons me ms) := by
  obtain ⟨te, pe, se⟩ := he
  obtain ⟨la, t, tk, _, pa, pk, sk⟩ := hs
  refine ⟨fun σ h xs h' z => ?_, _, tk, (fun z => nomatch z), pa_cons pe pa hst, pk, fun g σ h τ H Q rs rh q => ?_⟩
  · rw [aCons_def] at z
    cases r : me σ h with
    | ok x h1 =>
      rw [r] at z
      simp only [Res.bind_ok] at z
      cases r2 : ms σ h1 with
      | ok ys h2 => rw [r2] at z; cases z; simp [la _ _ _ _ r2]; omega
      | exc _ _ => rw [r2] at z; cases z
      | bad => rw [r2] at z; cases z
    | exc _ _ => rw [r] at z; cases z
    | bad => rw [r] at z; cases z
  · refine se g σ h τ H _ rs rh ((Post.bind q).imp (fun u H1 ⟨g1, x, h1, m1, q1⟩ => ?_) fun _ _ _ z => z)
    have s2 := sk g1 σ h1 τ H1 (fun us H2 => Q (u :: us) H2) (rs.mono m1.le m1.len) m1.rel ((Post.bind (R := Reps (kx c X)) q1).imp (fun us H2 ⟨g2, ys, h2, m2, q2⟩ => q2 g2 (u :: us) H2 (Gh.le.refl _ _) (Nat.le_refl _) m2.rel (Reps.cons (m1.rep.mono m2.le m2.len) m2.rep)) fun _ _ _ z => z)
    simpa only [tCons, List.length_cons, Nat.add_right_cancel_iff, List.cons_append] using s2
theorem SE.callK (F : FnS c X.prog X.w X.K X.mg X.base k f fd ps m) (hr : Room k X.A) (hgd : X.A.guards = some []) (hg : Gl X x) (hm : X.mg x = some (.ref f)) (hk : PySem.W.keepIn X.K (.ref f) = true) (hb : KBd X.K fd ps (e :: es).length ks) (tk : Takes X W) (ha : SAK c X W (e :: es) kws ms)
    (hn : (e :: es).length + kws.length = ps.length := by rfl) (hl : ks.length = kws.length := by rfl) (hall : (backToKw pos (keywordEach kws X.env)).all (·.1.isSome) = true := by rfl) (hks : (backToKw pos (keywordEach kws X.env)).filterMap (·.1) = ks := by rfl) (hdb : (x == ("__debug__" : Str)) = false := by decide)
    (st : starEach (e :: es) X.env = (false, eval e X.env) :: starEach es X.env := by rfl) (pl : ((backTo pos (starEach (e :: es) X.env)).any (·.1) || (backToKw pos (keywordEach kws X.env)).any (·.1.isNone)) = false := by rfl) :
    SE c X W (.Call (.Name x p) (e :: es) kws pos) (eCall m ms) := by
  obtain ⟨la, t, tk', _, pa, pk, s⟩ := ha
  refine ⟨_, pe_callGK F.ok hr hgd hg hm hk hb (fun σ => passAt tk σ) pa pk hall hks hdb st pl, fun g σ h τ H Q rs rh q => ?_⟩
  rw [hl]
  exact args_sp (t := fun τ H Q => t τ H fun vs H1 => tk' τ H1 fun zs H2 => vs.length = (e :: es).length ∧ zs.length = kws.length ∧ Q (vs ++ zs) H2) (fun Q z => s g σ h τ H Q rs rh z) (fun xs h' z => (la σ h xs h' z).trans hn) q
theorem SE.callK0 (F : FnS c X.prog X.w X.K X.mg X.base k f fd ps m) (hr : Room k X.A) (hgd : X.A.guards = some []) (hg : Gl X x) (hm : X.mg x = some (.ref f)) (hk : PySem.W.keepIn X.K (.ref f) = true) (hb : KBd X.K fd ps 0 ks) (tk : Takes X W) (ha : SKW c X W kws ms)
    (hn : kws.length = ps.length := by rfl) (hl : ks.length = kws.length := by rfl) (hall : (backToKw pos (keywordEach kws X.env)).all (·.1.isSome) = true := by rfl) (hks : (backToKw pos (keywordEach kws X.env)).filterMap (·.1) = ks := by rfl) (hdb : (x == ("__debug__" : Str)) = false := by decide)
    (pl : ((backTo pos (starEach [] X.env)).any (·.1) || (backToKw pos (keywordEach kws X.env)).any (·.1.isNone)) = false := by rfl) :
    SE c X W (.Call (.Name x p) [] kws pos) (eCall m ms) := by
  obtain ⟨la, tk', pk, s⟩ := ha
  refine ⟨_, pe_callGK0 F.ok hr hgd hg hm hk hb (fun σ => passAt tk σ) pk hall hks hdb pl, fun g σ h τ H Q rs rh q => ?_⟩
  rw [hl]
  show tk' τ H fun zs H2 => ([] : List V).length = 0 ∧ zs.length = kws.length ∧ spOf _ _ m ([] ++ zs) H2 Q _
  refine args_sp (t := fun τ H Q => tk' τ H fun zs H2 => ([] : List V).length = 0 ∧ zs.length = kws.length ∧ Q ([] ++ zs) H2) (fun Q z => ?_) (fun xs h' z => (la σ h xs h' z).trans hn) q
  exact s g σ h τ H _ rs rh ((Post.withLen z (fun xs h' z => la σ h xs h' z)).imp (fun us H1 ⟨a, b⟩ => ⟨rfl, a, b⟩) fun _ _ _ z => z)
/-! ### methods with keywords -/
def tMethKW (C : Addr) (mn : Str) (n m : Nat) (sp : Sp) (E : L2.St → XK) (ta : TE) (t tk : TA) : TE := fun τ H Q => ta τ H fun x H1 => ∃ a dx fs, x = .ref a ∧ H1 a = some (.ins C dx fs) ∧ fs.lookup mn = none ∧ t τ H1 fun vs H2 => tk τ H2 fun zs H3 => vs.length = n ∧ zs.length = m ∧ sp (x :: (vs ++ zs)) H3 Q (E τ)
theorem pe_methWK {sp : Sp} {E : L2.St → XK} {ta : TE} {t tk : TA} {pl : Sem Bool} (po : PE X o ta) (cl : Cls X.K C) (me : Meth X.K C mn f) (F : FnG X.prog X.w X.K X.mg X.base k f fd ps sp) (room : Room k X.A) (gd : X.A.guards = some []) (bi : KBd X.K fd ps (n + 1) ks) (px : ∀ τ, PassesAt (L2.CX X.prog X.w) X τ (E τ)) (pa : PA X (e :: es) t) (pk : PK X kws tk)
    (hall : (backToKw pos (keywordEach kws X.env)).all (·.1.isSome) = true) (hks : (backToKw pos (keywordEach kws X.env)).filterMap (·.1) = ks)
    (st : starEach (e :: es) X.env = (false, eval e X.env) :: starEach es X.env) (pl' : ((backTo pos (starEach (e :: es) X.env)).any (·.1) || (backToKw pos (keywordEach kws X.env)).any (·.1.isNone)) = false)
    (tree : eval (.Call (.Attribute o mn apos) (e :: es) kws pos) X.env = (do
      let recv ← eval o X.env
      standAt apos.atName
      let (fn, head) ← holding [recv] (getMethod recv mn pl)
      callWith pos fn head (backTo pos (starEach (e :: es) X.env)) (backToKw pos (keywordEach kws X.env)))) : PE X (.Call (.Attribute o mn apos) (e :: es) kws pos) (tMethKW C mn n ks.length sp E ta t tk) := by
  refine ⟨fun pins s τ H Q I h => ?_⟩
  refine PySem.W.methodCall_KW (pl := pl) (thn (po.run pins s τ H _ I h) fun u s1 ⟨x, H1, I1, rx, a, dx, fs, ex, ea, nl, q⟩ => ?_) tree
  subst ex
  cases rx
  refine getmeth_ok I1 ea cl me nl ?_
  refine PySem.W.callWith_KW (first := [.ref a]) (h₀ := X.base) I.ok.mod.kin me.kp hall (thn (pa.run pos pins s1 τ H1 _ I1 q) fun us s2 ⟨vs, H2, I2, r, q2⟩ => ?_) pl' st
  refine thn (pk.run pos pins s2 τ H2 _ I2 q2) fun ws s3 ⟨zs, H3, I3, rz, l1, l2, q3⟩ => ⟨I3.kIn, ?_⟩
  rw [hks]
  exact run_fnGK (us := .ref a :: us) (vs := .ref a :: vs) F room gd bi (px τ) I3 (.cons rfl r) rz (by rw [List.length_cons, l1]) l2 q3
theorem pe_methWK0 {sp : Sp} {E : L2.St → XK} {ta : TE} {tk : TA} {pl : Sem Bool} (po : PE X o ta) (cl : Cls X.K C) (me : Meth X.K C mn f) (F : FnG X.prog X.w X.K X.mg X.base k f fd ps sp) (room : Room k X.A) (gd : X.A.guards = some []) (bi : KBd X.K fd ps 1 ks) (px : ∀ τ, PassesAt (L2.CX X.prog X.w) X τ (E τ)) (pk : PK X kws tk)
    (hall : (backToKw pos (keywordEach kws X.env)).all (·.1.isSome) = true) (hks : (backToKw pos (keywordEach kws X.env)).filterMap (·.1) = ks) (pl' : ((backTo pos (starEach [] X.env)).any (·.1) || (backToKw pos (keywordEach kws X.env)).any (·.1.isNone)) = false)
    (tree : eval (.Call (.Attribute o mn apos) [] kws pos) X.env = (do
      let recv ← eval o X.env
      standAt apos.atName
      let (fn, head) ← holding [recv] (getMethod recv mn pl)
      callWith pos fn head (backTo pos (starEach [] X.env)) (backToKw pos (keywordEach kws X.env)))) : PE X (.Call (.Attribute o mn apos) [] kws pos) (tMethKW C mn 0 ks.length sp E ta tNil tk) := by
  refine ⟨fun pins s τ H Q I h => ?_⟩
  refine PySem.W.methodCall_KW (pl := pl) (thn (po.run pins s τ H _ I h) fun u s1 ⟨x, H1, I1, rx, a, dx, fs, ex, ea, nl, q⟩ => ?_) tree
  subst ex
  cases rx
  refine getmeth_ok I1 ea cl me nl ?_
  refine PySem.W.callWith_KW0 (first := [.ref a]) (h₀ := X.base) I.ok.mod.kin me.kp hall ?_ pl'
  refine thn (pk.run pos pins s1 τ H1 _ I1 q) fun ws s3 ⟨zs, H3, I3, rz, l1, l2, q3⟩ => ⟨I3.kIn, ?_⟩
  rw [hks]
  exact run_fnGK (us := [.ref a]) (vs := [.ref a]) F room gd bi (px τ) I3 (.cons rfl .nil) rz rfl l2 q3
theorem methK_run {Cn nn mm : Nat} {t tk : TA} {ta : TE} (sl : ∀ σ h xs h', ms σ h = .ok xs h' → (xs.length + 1) = ps.length)
    (so : ∀ g σ h τ H Q, RelS (kx c X) g h.length σ τ → RelH (kx c X) g h H → Post (kx c X) (Rep (kx c X)) g h.length Q (at_ W τ) (mo σ h) → ta τ H Q)
    (sa : ∀ g σ h τ H Q, RelS (kx c X) g h.length σ τ → RelH (kx c X) g h H → Post (kx c X) (Reps (kx c X)) g h.length Q (at_ W τ) (ms σ h) → t τ H fun vs H1 => tk τ H1 fun zs H2 => vs.length = nn ∧ zs.length = mm ∧ Q (vs ++ zs) H2)
    (g : Gh) (σ : LS) (h : VH) (τ : L2.St) (H : Hp) (Q : VK) (rs : RelS (kx c X) g h.length σ τ) (rh : RelH (kx c X) g h H) (q : Post (kx c X) (Rep (kx c X)) g h.length Q (at_ W τ) (eMeth Cn mn m mo ms σ h)) :
    tMethKW (c Cn) mn nn mm (spOf (kx c X) ps.length m) (WE W) ta t tk τ H Q := by
  refine so g σ h τ H _ rs rh ((Post.bind q).imp (fun u H1 ⟨g1, x, h1, m1, q1⟩ => ?_) fun _ _ _ z => z)
  unfold methP at q1
  split at q1
  · rename_i D fs e1
    split at q1
    · rename_i e2
      obtain ⟨rfl, e3⟩ := e2
      obtain ⟨a, dx, gs, rfl, hu, r⟩ := insAt_run m1.rep m1.rel e1
      refine ⟨a, dx, gs, rfl, hu, (RepF.lookup (f := mn) r).2 e3, ?_⟩
      refine sa g1 σ h1 τ H1 (fun us H3 => spOf (kx c X) ps.length m (.ref a :: us) H3 Q (WE W τ)) (rs.mono m1.le m1.len) m1.rel ?_
      have ln := fun xs h' => sl σ h1 xs h'
      generalize ms σ h1 = res at q1 ln
      cases res with
      | ok xs h' => exact fun g' us H' l hn rh' ru => ⟨g', h', x :: xs, ln xs h' rfl, Reps.cons (m1.rep.mono l hn) ru, rh', Post.up q1 l hn⟩
      | exc e' h' => exact q1
      | bad => exact q1
    · exact q1.elim
  · exact q1.elim
theorem SE.methK {Cn : Nat} {pl : Sem Bool} (ho : SE c X W o mo) (cl : Cls X.K (c Cn)) (me : Meth X.K (c Cn) mn f) (F : FnS c X.prog X.w X.K X.mg X.base k f fd ps m) (hr : Room k X.A) (hgd : X.A.guards = some []) (hb : KBd X.K fd ps ((e :: es).length + 1) ks) (tk : Takes X W) (ha : SAK c X W (e :: es) kws ms)
    (hn : (e :: es).length + kws.length + 1 = ps.length := by rfl) (hl : ks.length = kws.length := by rfl) (hall : (backToKw pos (keywordEach kws X.env)).all (·.1.isSome) = true := by rfl) (hks : (backToKw pos (keywordEach kws X.env)).filterMap (·.1) = ks := by rfl)
    (st : starEach (e :: es) X.env = (false, eval e X.env) :: starEach es X.env := by rfl) (pl' : ((backTo pos (starEach (e :: es) X.env)).any (·.1) || (backToKw pos (keywordEach kws X.env)).any (·.1.isNone)) = false := by rfl)
    (tree : eval (.Call (.Attribute o mn apos) (e :: es) kws pos) X.env = (do
      let recv ← eval o X.env
      standAt apos.atName
      let (fn, head) ← holding [recv] (getMethod recv mn pl)
      callWith pos fn head (backTo pos (starEach (e :: es) X.env)) (backToKw pos (keywordEach kws X.env))) := by rfl) : SE c X W (.Call (.Attribute o mn apos) (e :: es) kws pos) (eMeth Cn mn m mo ms) := by
  obtain ⟨to, po, so⟩ := ho
  obtain ⟨la, t, tk', _, pa, pk, s⟩ := ha
  refine ⟨_, pe_methWK po cl me F.ok hr hgd hb (fun τ => passAt tk τ) pa pk hall hks st pl' tree, ?_⟩
  rw [hl]
  exact methK_run (fun σ h xs h' z => by rw [la σ h xs h' z]; exact hn) so s
theorem SE.methK0 {Cn : Nat} {pl : Sem Bool} (ho : SE c X W o mo) (cl : Cls X.K (c Cn)) (me : Meth X.K (c Cn) mn f) (F : FnS c X.prog X.w X.K X.mg X.base k f fd ps m) (hr : Room k X.A) (hgd : X.A.guards = some []) (hb : KBd X.K fd ps 1 ks) (tk : Takes X W) (ha : SAK c X W [] kws ms)
    (hn : 0 + kws.length + 1 = ps.length := by rfl) (hl : ks.length = kws.length := by rfl) (hall : (backToKw pos (keywordEach kws X.env)).all (·.1.isSome) = true := by rfl) (hks : (backToKw pos (keywordEach kws X.env)).filterMap (·.1) = ks := by rfl)
    (pl' : ((backTo pos (starEach [] X.env)).any (·.1) || (backToKw pos (keywordEach kws X.env)).any (·.1.isNone)) = false := by rfl)
    (tree : eval (.Call (.Attribute o mn apos) [] kws pos) X.env = (do
      let recv ← eval o X.env
      standAt apos.atName
      let (fn, head) ← holding [recv] (getMethod recv mn pl)
      callWith pos fn head (backTo pos (starEach [] X.env)) (backToKw pos (keywordEach kws X.env))) := by rfl) : SE c X W (.Call (.Attribute o mn apos) [] kws pos) (eMeth Cn mn m mo ms) := by
  obtain ⟨to, po, so⟩ := ho
  obtain ⟨la, t, tk', e0, pa, pk, s⟩ := ha
  obtain rfl := e0 rfl
  refine ⟨_, pe_methWK0 po cl me F.ok hr hgd hb (fun τ => passAt tk τ) pk hall hks pl' tree, ?_⟩
  rw [hl]
  exact methK_run (fun σ h xs h' z => by rw [la σ h xs h' z]; exact hn) so s
/-! ### C(k = v, ..) -/
theorem run_makeWK {sp : Sp} {E : XK} {pins : List (Addr × Obj)} {τ : L2.St} {H : Hp} {s : Shared} {Q : VK} {ws : List Value} {zs : List V} (mk : Mk X.K C f) (F : FnG X.prog X.w X.K X.mg X.base k f fd ps sp) (room : Room (k + 1) X.A) (gd : X.A.guards = some []) (bi : KBd X.K fd ps 1 ks)
    (px : PassesAt (L2.CX X.prog X.w) X τ E) (I : Inv X pins τ H s) (r : Vals zs ws) (l2 : zs.length = ks.length) (h : ∀ x dx, H x = none → H dx = none → dx ≠ x → sp (.ref x :: zs) (upd (upd H dx (.own x)) x (.ins C dx [])) (fun v H2 => v = .non ∧ Q (.ref x) H2) E) :
    wpAny (model X.prog X.w) X.A (call (.ref C) [] (ks.zip ws)) (EP X pins τ Q) X.xe s := by
  have q0 := h (s.heap.objs.size + 1) s.heap.objs.size (I.hok.fresh (Nat.le_succ _)) (I.hok.fresh (Nat.le_refl _)) (Nat.ne_of_lt (Nat.lt_succ_self _))
  have J := Inv.made (C := C) I
  have rr : Vals (V.ref (s.heap.objs.size + 1) :: zs) (Value.ref (s.heap.objs.size + 1) :: ws) := .cons rfl r
  refine wpAny_call (make_map (f := f) I.kIn mk.makes mk.init (beq_iff_eq.mp mk.fn) (codeAny_mono (F.run _ X.stack _ _ ⟨[Value.ref (s.heap.objs.size + 1)], ks.zip ws⟩ ([Value.ref (s.heap.objs.size + 1)] ++ ws) _ _ E (room.make C [] (ks.zip ws)) (make_guards.trans gd) (J.env0.make C [] (ks.zip ws)) (bi.to _ [Value.ref (s.heap.objs.size + 1)] ws rfl (r.length.symm.trans l2)) rr q0) fun res s' hq => ?_))
  cases res with
  | error e => exact px pins _ _ e s' J hq
  | ok fl =>
    cases fl with
    | ret u =>
      obtain ⟨v, H', I3, rv, ev, q3⟩ := J.after hq
      subst ev
      exact ⟨rv, V.ref (s.heap.objs.size + 1), H', I3, rfl, q3⟩
    | next => exact hq.elim
    | brk => exact hq.elim
    | cont => exact hq.elim
def tMakeKW (C : Addr) (m : Nat) (sp : Sp) (E : L2.St → XK) (tk : TA) : TE := fun τ H Q => tk τ H fun zs H2 => zs.length = m ∧ tMakeS C sp E (fun _ H' Q' => Q' zs H') τ H2 Q
theorem pe_makeWK {sp : Sp} {E : L2.St → XK} {tk : TA} (mk : Mk X.K C f) (F : FnG X.prog X.w X.K X.mg X.base k f fd ps sp) (room : Room (k + 1) X.A) (gd : X.A.guards = some []) (hg : Gl X x) (hm : X.mg x = some (.ref C)) (bi : KBd X.K fd ps 1 ks) (px : ∀ τ, PassesAt (L2.CX X.prog X.w) X τ (E τ)) (pk : PK X kws tk)
    (hall : (backToKw pos (keywordEach kws X.env)).all (·.1.isSome) = true) (hks : (backToKw pos (keywordEach kws X.env)).filterMap (·.1) = ks) (hdb : (x == ("__debug__" : Str)) = false)
    (pl : ((backTo pos (starEach [] X.env)).any (·.1) || (backToKw pos (keywordEach kws X.env)).any (·.1.isNone)) = false) : PE X (.Call (.Name x p) [] kws pos) (tMakeKW C ks.length sp E tk) := by
  refine ⟨fun pins s τ H Q I h => wpAny_Call_Name_kw (ld_glob I hg hm ?_ hdb)⟩
  refine PySem.W.callWith_KW0 (h₀ := X.base) I.ok.mod.kin mk.kp hall ?_ pl
  refine thn (pk.run pos pins s τ H _ I h) fun ws s2 ⟨zs, H2, I2, rz, l2, q2⟩ => ⟨I2.kIn, ?_⟩
  rw [hks]
  exact run_makeWK mk F room gd bi (px τ) I2 rz l2 q2
theorem SE.makeK {Cn : Nat} (mk : Mk X.K (c Cn) f) (F : FnS c X.prog X.w X.K X.mg X.base k f fd ps m) (hr : Room (k + 1) X.A) (hgd : X.A.guards = some []) (hg : Gl X x) (hm : X.mg x = some (.ref (c Cn))) (hb : KBd X.K fd ps 1 ks) (tk : Takes X W) (ha : SKW c X W kws ms)
    (hn : kws.length + 1 = ps.length := by rfl) (hl : ks.length = kws.length := by rfl) (hall : (backToKw pos (keywordEach kws X.env)).all (·.1.isSome) = true := by rfl) (hks : (backToKw pos (keywordEach kws X.env)).filterMap (·.1) = ks := by rfl) (hdb : (x == ("__debug__" : Str)) = false := by decide)
    (pl : ((backTo pos (starEach [] X.env)).any (·.1) || (backToKw pos (keywordEach kws X.env)).any (·.1.isNone)) = false := by rfl) :
    SE c X W (.Call (.Name x p) [] kws pos) (eMake Cn m ms) := by
  obtain ⟨la, t, pa, s⟩ := ha
  refine ⟨_, pe_makeWK mk F.ok hr hgd hg hm hb (fun τ => passAt tk τ) pa hall hks hdb pl, fun g σ h τ H Q rs rh q => ?_⟩
  rw [hl]
  refine s g σ h τ H _ rs rh ?_
  have ln := fun xs h' => la σ h xs h'
  dsimp only [eMake, eCall] at q
  generalize ms σ h = res at q ln
  cases res with
  | ok xs h' =>
    intro g1 us H1 l hn1 rh1 ru
    have l9 : us.length = kws.length := by
      have := ln xs h' rfl
      rw [ru.length]; omega
    refine ⟨l9, ?_⟩
    intro x dx nx ndx ne
    have q1 := Post.up q l hn1
    have sm : Same H1 (upd (upd H1 dx (.own x)) x (.ins (c Cn) dx [])) := fun b o e => by
      rw [upd_ne (ne_of_none e nx), upd_ne (ne_of_none e ndx)]; exact e
    obtain ⟨l2, rh2⟩ := RelH.push (o := .ins Cn []) rh1 sm nx upd_same ⟨dx, [], rfl, RepF.nil⟩
    have hl2 : (h' ++ [PO.ins Cn []]).length = h'.length + 1 := by simp
    refine ⟨_, _, .ref h'.length :: xs, by rw [List.length_cons, ln xs h' rfl]; exact hn, Reps.cons ?_ (ru.mono l2 (by rw [hl2]; exact Nat.le_succ _)), rh2, ?_⟩
    · simp only [Rep]
      exact ⟨by rw [hl2]; exact Nat.lt_succ_self _, by simp⟩
    · unfold makeP at q1
      rw [Res.bind_ok] at q1
      have q2 := Post.up q1 l2 (show h'.length ≤ (h' ++ [PO.ins Cn []]).length by rw [hl2]; exact Nat.le_succ _)
      generalize m (.ref h'.length :: xs) (h' ++ [PO.ins Cn []]) = r2 at q2
      cases r2 with
      | ok v h2 =>
        cases v with
        | non =>
          intro g3 u3 H3 l3 hn3 rh3 r3
          simp only [Rep] at r3
          refine ⟨r3, q2 g3 _ H3 l3 hn3 rh3 ?_⟩
          simp only [Rep]
          rw [hl2] at hn3
          refine ⟨by omega, ?_⟩
          rw [l3.rho h'.length (by rw [hl2]; exact Nat.lt_succ_self _)]
          simp
        | _ => exact q2.elim
      | exc e h2 => exact q2
      | bad => exact q2.elim
  | exc e' h' => exact q
  | bad => exact q
end
end Pm
namespace Pm
open PySem PySem.Spec L2 PyProof.Rows
/-! ### math.gcd -/
section
variable {c : Ck} {X : Cx} {W : WX}
def gcdP : List PV → VH → Res PV
  | [.int a, .int b], h => .ok (.int ((Nat.gcd a.natAbs b.natAbs : Nat) : Int)) h
  | _, _ => .bad
@[simp] theorem gcdP_ok (a b : Int) (h : VH) : gcdP [.int a, .int b] h = .ok (.int ((Nat.gcd a.natAbs b.natAbs : Nat) : Int)) h := (rfl)
theorem gcdS : CallS c X rGcd gcdP := fun g h H xs us Q E r rh p => by
  unfold gcdP at p
  split at p
  · rename_i a b _
    simp only [Reps] at r
    obtain ⟨u, us', rfl, r1, v, us2, rfl, r3, rfl⟩ := r
    simp only [Rep] at r1 r3
    exact ⟨_, _, by rw [r1, r3], p.go rh repI⟩
  · exact p.elim
theorem SE.callF {x : Str} {id : String} {r : List V → Hp → VK → Prop} {f : List PV → VH → Res PV} {e : Expr} {es : List Expr} {ms : AM} {p pos : Pos} (hc : CallR X (.builtin id) r) (hs : CallS c X r f) (hg : Gl X x) (hm : X.mg x = some (.builtin id)) (ha : SA c X W (e :: es) ms)
    (hdb : (x == ("__debug__" : Str)) = false := by decide) (he : starEach (e :: es) X.env = (false, eval e X.env) :: starEach es X.env := by rfl) (hpl : (backTo pos (starEach es X.env)).any (·.1) = false := by rfl) : SE c X W (.Call (.Name x p) (e :: es) [] pos) (eCall f ms) := by
  obtain ⟨_, t, pa, s⟩ := ha
  exact ⟨_, pe_callBfun hc hg hm pa hdb he hpl, fun g σ h τ H Q rs rh p => call_run hs s rs rh p⟩
end
end Pm
namespace Pm
open PySem PySem.Spec L2 PyProof.Rows
/-! ### x in a tuple of data -/
section
variable {c : Ck} {X : Cx}
def rInTD (K : PySem.W.Frag) (neg : Bool) : R2 := fun x y H Q => ∃ d ds, Dp K H x d ∧ Dp K H y (.tuple ds) ∧ SeqAt.shaped d = true ∧ SeqAt.shaped (.tuple ds) = true ∧ Q (.bl (if neg then !(ds.any fun z => PyData.eqv z d) else ds.any fun z => PyData.eqv z d)) H
theorem op_inTD (hu : X.A.units + 65 < cLine) : OpR X (compareOp .In) (rInTD X.K false) := by
  intro pins s σ H x y v u Q I rx ry h
  obtain ⟨d, ds, hd, he, sd, se, q⟩ := h
  obtain ⟨as, r1⟩ := Dp.reads I d x v hd rx
  obtain ⟨bs, r2⟩ := Dp.reads I (.tuple ds) y u he ry
  exact SeqAt.in_tuple_reads r2 r1 (SeqAt.canLay_of_shaped se) (SeqAt.canLay_of_shaped sd) (room_in_shaped sd hu) ⟨.bl _, H, I, rfl, q⟩
theorem op_notInTD (hu : X.A.units + 65 < cLine) : OpR X (compareOp .NotIn) (rInTD X.K true) := by
  intro pins s σ H x y v u Q I rx ry h
  obtain ⟨d, ds, hd, he, sd, se, q⟩ := h
  obtain ⟨as, r1⟩ := Dp.reads I d x v hd rx
  obtain ⟨bs, r2⟩ := Dp.reads I (.tuple ds) y u he ry
  exact SeqAt.notIn_tuple_reads r2 r1 (SeqAt.canLay_of_shaped se) (SeqAt.canLay_of_shaped sd) (room_in_shaped sd hu) ⟨.bl _, H, I, rfl, q⟩
def inTP (neg : Bool) (x y : PV) (h : VH) : Res PV := match dat h x, dat h y with
  | some d, some (.tuple ds) => if d.canLay0 = true ∧ PyData.canLayAll0 ds = true then .ok (.bl (if neg then !(ds.any fun z => PyData.eqv z d) else ds.any fun z => PyData.eqv z d)) h else .bad
  | _, _ => .bad
theorem inTP_ok {neg : Bool} {x y : PV} {h : VH} {d : PyData} {ds : List PyData} (e1 : dat h x = some d) (e2 : dat h y = some (.tuple ds)) (z : d.canLay0 = true ∧ PyData.canLayAll0 ds = true) : inTP neg x y h = .ok (.bl (if neg then !(ds.any fun z => PyData.eqv z d) else ds.any fun z => PyData.eqv z d)) h := by
  simp only [inTP, e1, e2]
  exact if_pos z
theorem inTS (neg : Bool) : OpS c X (rInTD X.K neg) (inTP neg) := fun g h H x y u v Q E rx ry rh p => by
  unfold inTP at p
  split at p
  · rename_i d ds e1 e2
    split at p
    · rename_i z
      obtain ⟨a1, a2⟩ := toD_run rh 12 rx e1
      obtain ⟨b1, b2⟩ := toD_run rh 12 ry e2
      exact ⟨d, ds, a1, b1, shaped_of z.1 a2, shaped_of z.2 b2, p.go rh repB⟩
    · exact p.elim
  · exact p.elim
end
end Pm
namespace Pm
open PySem PySem.Spec L2 PyProof.Rows
/-! ### bit_length -/
section
variable {c : Ck} {X : Cx} {W : WX}
def bitsP (x : PV) (h : VH) : Res PV := match x with
  | .int i => .ok (.int (Builtin.Int.intBits i : Nat)) h
  | _ => .bad
@[simp] theorem bitsP_int (i : Int) (h : VH) : bitsP (.int i) h = .ok (.int (Builtin.Int.intBits i : Nat)) h := rfl
theorem SE.bits {o : Expr} {apos pos : Pos} {mo : EM} (ho : SE c X W o mo) (hbase : attributeBase o "bit_length" X.env (eval o X.env) = eval o X.env := by rfl) (hline : (apos.endLine == pos.line) = true := by rfl) :
    SE c X W (.Call (.Attribute o "bit_length" apos) [] [] pos) (eUn bitsP mo) := by
  obtain ⟨t, p, s⟩ := ho
  refine ⟨_, pe_bits p hbase hline, fun g σ h τ H Q rs rh q => ?_⟩
  refine s g σ h τ H _ rs rh ((Post.bind q).imp (fun u H1 ⟨g1, x, h1, m1, q1⟩ => ?_) fun _ _ _ z => z)
  have rx := m1.rep
  cases x with
  | int i =>
    simp only [Rep] at rx
    subst rx
    exact ⟨i, rfl, Post.go q1 m1.rel repI⟩
  | _ => exact q1.elim
/-! ### x is True, x is False -/
def isB (neg : Bool) (x y : PV) (h : VH) : Res PV := match x, y with
  | .bl a, .bl b => .ok (.bl (if neg then !(a == b) else a == b)) h
  | _, _ => .bad
@[simp] theorem isB_bl (neg a b : Bool) (h : VH) : isB neg (.bl a) (.bl b) h = .ok (.bl (if neg then !(a == b) else a == b)) h := rfl
theorem isnotBS : OpS c X rNotB (isB true) := fun g h H x y u v Q E rx ry rh p => by
  unfold isB at p
  split at p
  · rename_i a b
    simp only [Rep] at rx ry
    exact ⟨a, b, rx, ry, Post.go p rh repB⟩
  · exact p.elim
theorem isBS : OpS c X rIsB (isB false) := fun g h H x y u v Q E rx ry rh p => by
  unfold isB at p
  split at p
  · rename_i a b
    simp only [Rep] at rx ry
    exact ⟨a, b, rx, ry, Post.go p rh repB⟩
  · exact p.elim
/-! ### two clauses -/
/-- a source, as a reading -/
def tiOf (K : Kc) (m : LS → VH → Res Src) : TI := fun τ H R => ∃ g σ h, RelS K g h.length σ τ ∧ RelH K g h H ∧ Post K (SrcOk K) g h.length R (at_ W0 τ) (m σ h)
theorem SI.pi {tg it : Expr} {m : LS → VH → Res Src} (h : SI c X W0 tg it m) : PI X tg it (tiOf (kx c X) m) := by
  obtain ⟨t, p, s⟩ := h
  exact ⟨fun pins st τ H R I ⟨g, σ, h, rs, rh, q⟩ => p.run pins st τ H R I (s g σ h τ H R rs rh q)⟩
open Classical in
noncomputable def compL2 (ck : List (Nat × List PV)) (ws : List Nat) (gm : GM) (mt : TM) (ms1 : LS → VH → Res Src) (ws1 : List Nat) (gm1 : GM) (mt1 : TM) (me : EM) (σ : LS) : List PV → List PV → VH → Res (List PV)
  | [], acc, h => if ckOk ck h then .ok acc h else .bad
  | x :: xs, acc, h => if ckOk ck h then ((gm x (wipeL σ ws) h).nx).bind fun σ2 h2 => ((mt σ2 h2).nx).bind fun b h3 =>
      if b = true then ((ms1 σ2 h3).nx).bind fun s h4 => (compL s.ck ws1 gm1 mt1 me σ2 s.xs acc h4).bind fun acc' h5 => compL2 ck ws gm mt ms1 ws1 gm1 mt1 me σ xs acc' h5
      else compL2 ck ws gm mt ms1 ws1 gm1 mt1 me σ xs acc h3
    else .bad
noncomputable def eLc2 (cell : Bool) (ms : LS → VH → Res Src) (ws : List Nat) (gm : GM) (mt : TM) (ms1 : LS → VH → Res Src) (ws1 : List Nat) (gm1 : GM) (mt1 : TM) (me : EM) : EM := fun σ h => (ms σ h).bind fun s h1 => (compL2 s.ck ws gm mt ms1 ws1 gm1 mt1 me σ s.xs [] h1).bind fun acc h2 => mkL cell acc h2
theorem eLc2_def (cell : Bool) (ms : LS → VH → Res Src) (ws : List Nat) (gm : GM) (mt : TM) (ms1 : LS → VH → Res Src) (ws1 : List Nat) (gm1 : GM) (mt1 : TM) (me : EM) (σ : LS) (h : VH) : eLc2 cell ms ws gm mt ms1 ws1 gm1 mt1 me σ h = (ms σ h).bind fun s h1 => (compL2 s.ck ws gm mt ms1 ws1 gm1 mt1 me σ s.xs [] h1).bind fun acc h2 => mkL cell acc h2 := rfl
/-- a walk's turns counted down -/
theorem walk_W {J : It} {n : Nat} {G : Hp → Prop} {Y : Nat → Hp → V → Hp → Prop} (w : Walk J n G Y) {H1 : Hp} {Qd : Hp → Prop} {T : Nat → Hp → (Hp → Prop) → V → Hp → Prop} (Pv : Nat → Hp → Prop) (h0 : Pv 0 H1) (hG : ∀ i H, i ≤ n → Pv i H → G H)
    (hs : ∀ i x H H', i < n → Pv i H → Y i H x H' → T i H (Pv (i + 1)) x H') (hd : ∀ H, Pv n H → Qd H) :
    ∃ W : Nat → Nat → Hp → Prop, (∃ m, W 0 m H1) ∧ ∀ i m H, W i m H → (J.stop i H ∧ Qd H) ∨ (J.go i H ∧ ∃ Nx : Hp → Prop, (∀ H', Nx H' → ∃ m', m' < m ∧ W (i + 1) m' H') ∧ ∀ x H', J.yld i H x H' → T i H Nx x H') := by
  refine ⟨fun i m H => m = n - i ∧ i ≤ n ∧ Pv i H, ⟨n, by simp, Nat.zero_le _, h0⟩, fun i m H hw => ?_⟩
  obtain ⟨e, hi, p⟩ := hw
  have q := hG i H hi p
  rcases Nat.lt_or_eq_of_le hi with hlt | he
  · exact .inr ⟨w.goes i H hlt q, Pv (i + 1), fun H' p' => ⟨n - (i + 1), by omega, rfl, hlt, p'⟩, fun x H' y => hs i x H H' hlt p (w.yields i H x H' hlt q y)⟩
  · subst he
    exact .inl ⟨w.stops H q, hd H p⟩
theorem wipe_twice (σ : L2.St) (vs : List Nat) : L2.wipe (L2.wipe σ vs) vs = L2.wipe σ vs := by
  have gen : ∀ (vs us : List Nat), (∀ v ∈ vs, v ∈ us) → L2.wipe (L2.wipe σ vs) us = L2.wipe σ us := by
    intro vs
    induction vs with
    | nil => intro us _; rfl
    | cons v vs ih =>
      intro us hm
      show L2.wipe ((L2.wipe σ vs).set v none) us = _
      rw [wipe_set (hm v List.mem_cons_self), ih us fun w hw => hm w (List.mem_cons_of_mem _ hw)]
  exact gen vs vs fun _ h => h
/-- a watched list within a walk -/
structure Wt (K : Kc) (g0 : Gh) (n0 : Nat) (D : Addr) (g : Gh) (h : VH) (acc : List PV) (us : List V) (H : Hp) : Prop where
  le : g0.le0 n0 g
  len : n0 ≤ h.length
  rel : RelH K g h H
  at_ : g.pr D = some (.lst us)
  np : ∀ a, a ≠ D → g.pr a = g0.pr a
  rep : Reps K g h.length acc us
section
variable {K : Kc} {g0 g g' : Gh} {n0 : Nat} {D : Addr} {h h' : VH} {acc : List PV} {us : List V} {H H' : Hp}
theorem Wt.go (w : Wt K g0 n0 D g h acc us H) (l : g.le h.length g') (hn : h.length ≤ h'.length) (r : RelH K g' h' H') : Wt K g0 n0 D g' h' acc us H' :=
  ⟨w.le.trans l.to0 w.len, Nat.le_trans w.len hn, r, by rw [l.pr]; exact w.at_, fun a ha => by rw [l.pr]; exact w.np a ha, w.rep.mono l hn⟩
theorem Wt.push (w : Wt K g0 n0 D g h acc us H) {y : PV} {u : V} (ru : Rep K g h.length y u) (hz : acc.length < 16777216) : H D = some (.lst us) ∧ us.length < sizeLine ∧ Wt K g0 n0 D (g.wat D (us ++ [u])) h (acc ++ [y]) (us ++ [u]) (upd H D (.lst (us ++ [u]))) := by
  have la := w.rep.length
  refine ⟨(w.rel.fr D _ w.at_).1, by rw [sizeLine_eq]; omega, Gh.le0_wat w.le, w.len, w.rel.rewatch w.at_, if_pos rfl, fun a ha => ?_, ?_⟩
  · show (if a = D then _ else g.pr a) = _
    rw [if_neg ha]; exact w.np a ha
  · exact (w.rep.append (Reps.cons ru Reps.nil)).mono0 (g.wat_le0 _ _ _) (Nat.le_refl _)
end
/-- the inner clause -/
theorem comp_in {ws : List Nat} {gm : GM} {mt : TM} {me : EM} {src : Src} {K : Kc} {g0 g1 : Gh} {n0 : Nat} {h1 : VH} {H1 : Hp} {J : It} {D : Addr} {σ : LS} {τ : L2.St} {acc1 : List PV} {us1 : List V} {Kn : Res (List PV) → Prop} {Qd : Hp → Prop}
    (kb : ¬ Kn .bad) (w1 : Wt K g0 n0 D g1 h1 acc1 us1 H1) (so : SrcOk K g1 h1.length src J) (rs : RelS K g1 h1.length σ τ) (q : Kn (compL src.ck ws gm mt me σ src.xs acc1 h1))
    (fin : ∀ g' h' acc us H, g1.le0 h1.length g' → h1.length ≤ h'.length → Wt K g0 n0 D g' h' acc us H → Kn (.ok acc h') → Qd H) :
    ∃ W : Nat → Nat → Hp → Prop, (∃ m, W 0 m H1) ∧ ∀ i m H, W i m H →
      (J.stop i H ∧ Qd H) ∨ (J.go i H ∧ ∃ Nx : Hp → Prop, (∀ H', Nx H' → ∃ m', m' < m ∧ W (i + 1) m' H') ∧ ∀ x H', J.yld i H x H' → tgOf K gm ws x (L2.wipe τ ws) H' fun τ2 H2 => L2.wipe τ2 ws = L2.wipe τ ws ∧ ttOf K mt τ2 H2 fun b H3 =>
        if b = true then teOf K me τ2 H3 fun y H4 => ∃ acc, H4 D = some (.lst acc) ∧ acc.length < sizeLine ∧ Nx (upd H4 D (.lst (acc ++ [y]))) else Nx H3) := by
  obtain ⟨Gp, Y, wk, hG, hY⟩ := so
  have ckof : ∀ {xs acc h'}, Kn (compL src.ck ws gm mt me σ xs acc h') → ckOk src.ck h' := fun {xs acc h'} q => by
    refine Classical.byContradiction fun hc => kb ?_
    cases xs with
    | nil => unfold compL at q; rwa [if_neg hc] at q
    | cons y ys => unfold compL at q; rwa [if_neg hc] at q
  refine walk_W wk (T := fun i H Nx x H' => tgOf K gm ws x (L2.wipe τ ws) H' fun τ2 H2 => L2.wipe τ2 ws = L2.wipe τ ws ∧ ttOf K mt τ2 H2 fun b H3 => if b = true then teOf K me τ2 H3 fun y H4 => ∃ acc, H4 D = some (.lst acc) ∧ acc.length < sizeLine ∧ Nx (upd H4 D (.lst (acc ++ [y]))) else Nx H3)
    (fun i H => ∃ g' h' acc us, g1.le0 h1.length g' ∧ h1.length ≤ h'.length ∧ Wt K g0 n0 D g' h' acc us H ∧ Kn (compL src.ck ws gm mt me σ (src.xs.drop i) acc h')) ?_ (fun i H hi hh => ?_) (fun i x H H' hi hh hy => ?_) (fun H hh => ?_)
  · exact ⟨g1, h1, acc1, us1, ⟨Same.refl _, fun _ _ => rfl⟩, Nat.le_refl _, w1, q⟩
  · obtain ⟨g', h', acc, us, l, hn, wt, q'⟩ := hh
    exact hG g' h' H l hn wt.rel (ckof q')
  · obtain ⟨g', h', acc, us, l, hn, wt, q'⟩ := hh
    have hck := ckof q'
    rw [List.drop_eq_getElem_cons hi] at q'
    unfold compL at q'
    rw [if_pos hck] at q'
    obtain ⟨g2, l2, rh2, rx⟩ := hY i _ g' h' H H' l hn wt.rel hck (List.getElem?_eq_getElem hi) x hy
    refine ⟨g2, wipeL σ ws, h', src.xs[i], ((rs.mono0 l hn).mono l2 (Nat.le_refl _)).wipe ws, rh2, rx, ?_⟩
    cases e1 : gm src.xs[i] (wipeL σ ws) h' with
    | exc e h2 => rw [e1] at q'; exact absurd q' kb
    | bad => rw [e1] at q'; exact absurd q' kb
    | ok σ2 h2 =>
    rw [e1, Res.nx_ok, Res.bind_ok] at q'
    intro g3 τ2 H3 l3 hn3 rh3 ⟨rs3, ew⟩
    refine ⟨ew.trans (wipe_twice _ _), g3, σ2, h2, rs3, rh3, ?_⟩
    cases e2 : mt σ2 h2 with
    | exc e h2 => rw [e2] at q'; exact absurd q' kb
    | bad => rw [e2] at q'; exact absurd q' kb
    | ok b h3 =>
    rw [e2, Res.nx_ok, Res.bind_ok] at q'
    intro g4 b' H4 l4 hn4 rh4 eb
    obtain rfl : b' = b := eb
    have l14 : g'.le h'.length g4 := (l2.trans l3 (Nat.le_refl _)).trans l4 (Nat.le_trans (Nat.le_refl _) hn3)
    have hn14 : h'.length ≤ h3.length := Nat.le_trans hn3 hn4
    cases b' with
    | false =>
      rw [if_neg Bool.false_ne_true] at q' ⊢
      exact ⟨g4, h3, acc, us, l.trans l14.to0 hn, Nat.le_trans hn hn14, wt.go l14 hn14 rh4, q'⟩
    | true =>
      rw [if_pos rfl] at q' ⊢
      refine ⟨g4, σ2, h3, rs3.mono l4 hn4, rh4, ?_⟩
      cases e3 : me σ2 h3 with
      | exc e h2 => rw [e3] at q'; exact absurd q' kb
      | bad => rw [e3] at q'; exact absurd q' kb
      | ok y h4 =>
      rw [e3, Res.nx_ok, Res.bind_ok] at q'
      intro g5 u H5 l5 hn5 rh5 ru
      have l15 : g'.le h'.length g5 := l14.trans l5 hn14
      have hn15 : h'.length ≤ h4.length := Nat.le_trans hn14 hn5
      by_cases hz : acc.length < 16777216
      · rw [if_pos hz] at q'
        obtain ⟨p1, p2, p3⟩ := (wt.go l15 hn15 rh5).push ru hz
        exact ⟨us, p1, p2, g5.wat D (us ++ [u]), h4, acc ++ [y], us ++ [u], Gh.le0_wat (l.trans l15.to0 hn), Nat.le_trans hn hn15, p3, q'⟩
      · rw [if_neg hz] at q'; exact absurd q' kb
  · obtain ⟨g', h', acc, us, l, hn, wt, q'⟩ := hh
    have hck := ckof q'
    rw [List.drop_length] at q'
    unfold compL at q'
    rw [if_pos hck] at q'
    exact fin g' h' acc us H l hn wt q'
theorem comp2_run {ws ws1 : List Nat} {gm gm1 : GM} {mt mt1 : TM} {me : EM} {ms1 : LS → VH → Res Src} {cell : Bool} {src : Src} {K : Kc} {g0 : Gh} {h0 : VH} {H0 : Hp} {J : It} {D : Addr} {Q : VK} {E : XK} {σ : LS} {τ : L2.St}
    (so : SrcOk K g0 h0.length src J) (rs : RelS K g0 h0.length σ τ) (rh : RelH K g0 h0 H0) (nD : H0 D = none)
    (q : Post K (Rep K) g0 h0.length Q E ((compL2 src.ck ws gm mt ms1 ws1 gm1 mt1 me σ src.xs [] h0).bind fun acc h2 => mkL cell acc h2)) :
    ∃ W : Nat → Nat → Hp → Prop, (∃ m, W 0 m (upd H0 D (.lst []))) ∧ ∀ i m H, W i m H →
      (J.stop i H ∧ Q (.ref D) H) ∨ (J.go i H ∧ ∃ Nx : Hp → Prop, (∀ H', Nx H' → ∃ m', m' < m ∧ W (i + 1) m' H') ∧ ∀ x H', J.yld i H x H' → tgOf K gm ws x (L2.wipe τ ws) H' fun τ2 H2 => L2.wipe τ2 ws = L2.wipe τ ws ∧ ttOf K mt τ2 H2 fun b H3 =>
        if b = true then tiOf K ms1 τ2 H3 fun J1 H4 => ∃ W1 : Nat → Nat → Hp → Prop, (∃ m, W1 0 m H4) ∧ ∀ j k H, W1 j k H →
          (J1.stop j H ∧ Nx H) ∨ (J1.go j H ∧ ∃ Nx1 : Hp → Prop, (∀ H', Nx1 H' → ∃ k', k' < k ∧ W1 (j + 1) k' H') ∧ ∀ x H', J1.yld j H x H' → tgOf K gm1 ws1 x (L2.wipe τ2 ws1) H' fun τ3 H5 => L2.wipe τ3 ws1 = L2.wipe τ2 ws1 ∧ ttOf K mt1 τ3 H5 fun b H6 =>
            if b = true then teOf K me τ3 H6 fun y H7 => ∃ acc, H7 D = some (.lst acc) ∧ acc.length < sizeLine ∧ Nx1 (upd H7 D (.lst (acc ++ [y]))) else Nx1 H6)
        else Nx H3) := by
  obtain ⟨Gp, Y, wk, hG, hY⟩ := so
  have p0 : g0.pr D = none := by
    cases z : g0.pr D with
    | none => rfl
    | some o => have := (rh.fr D o z).1; rw [nD] at this; cases this
  have kb : ¬ Post K (Rep K) g0 h0.length Q E ((Res.bad : Res (List PV)).bind fun acc h2 => mkL cell acc h2) := fun z => z.elim
  have ckof : ∀ {xs acc h'}, Post K (Rep K) g0 h0.length Q E ((compL2 src.ck ws gm mt ms1 ws1 gm1 mt1 me σ xs acc h').bind fun acc h2 => mkL cell acc h2) → ckOk src.ck h' := fun {xs acc h'} q => by
    refine Classical.byContradiction fun hc => kb ?_
    cases xs with
    | nil => unfold compL2 at q; rwa [if_neg hc] at q
    | cons y ys => unfold compL2 at q; rwa [if_neg hc] at q
  refine walk_W wk (T := fun i H Nx x H' => tgOf K gm ws x (L2.wipe τ ws) H' fun τ2 H2 => L2.wipe τ2 ws = L2.wipe τ ws ∧ ttOf K mt τ2 H2 fun b H3 =>
        if b = true then tiOf K ms1 τ2 H3 fun J1 H4 => ∃ W1 : Nat → Nat → Hp → Prop, (∃ m, W1 0 m H4) ∧ ∀ j k H, W1 j k H →
          (J1.stop j H ∧ Nx H) ∨ (J1.go j H ∧ ∃ Nx1 : Hp → Prop, (∀ H', Nx1 H' → ∃ k', k' < k ∧ W1 (j + 1) k' H') ∧ ∀ x H', J1.yld j H x H' → tgOf K gm1 ws1 x (L2.wipe τ2 ws1) H' fun τ3 H5 => L2.wipe τ3 ws1 = L2.wipe τ2 ws1 ∧ ttOf K mt1 τ3 H5 fun b H6 =>
            if b = true then teOf K me τ3 H6 fun y H7 => ∃ acc, H7 D = some (.lst acc) ∧ acc.length < sizeLine ∧ Nx1 (upd H7 D (.lst (acc ++ [y]))) else Nx1 H6)
        else Nx H3)
    (fun i H => ∃ g' h' acc us, Wt K g0 h0.length D g' h' acc us H ∧ Post K (Rep K) g0 h0.length Q E ((compL2 src.ck ws gm mt ms1 ws1 gm1 mt1 me σ (src.xs.drop i) acc h').bind fun acc h2 => mkL cell acc h2)) ?_ (fun i H hi hh => ?_) (fun i x H H' hi hh hy => ?_) (fun H hh => ?_)
  · exact ⟨g0.wat D [], h0, [], [], ⟨g0.wat_le0 _ _ _, Nat.le_refl _, rh.watch nD, if_pos rfl, fun a ha => if_neg ha, Reps.nil⟩, q⟩
  · obtain ⟨g', h', acc, us, wt, q'⟩ := hh
    exact hG g' h' H wt.le wt.len wt.rel (ckof q')
  · obtain ⟨g', h', acc, us, wt, q'⟩ := hh
    have hck := ckof q'
    rw [List.drop_eq_getElem_cons hi] at q'
    unfold compL2 at q'
    rw [if_pos hck] at q'
    obtain ⟨g2, l2, rh2, rx⟩ := hY i _ g' h' H H' wt.le wt.len wt.rel hck (List.getElem?_eq_getElem hi) x hy
    refine ⟨g2, wipeL σ ws, h', src.xs[i], ((rs.mono0 wt.le wt.len).mono l2 (Nat.le_refl _)).wipe ws, rh2, rx, ?_⟩
    cases e1 : gm src.xs[i] (wipeL σ ws) h' with
    | exc e h2 => rw [e1] at q'; exact q'.elim
    | bad => rw [e1] at q'; exact q'.elim
    | ok σ2 h2 =>
    rw [e1, Res.nx_ok, Res.bind_ok] at q'
    intro g3 τ2 H3 l3 hn3 rh3 ⟨rs3, ew⟩
    refine ⟨ew.trans (wipe_twice _ _), g3, σ2, h2, rs3, rh3, ?_⟩
    cases e2 : mt σ2 h2 with
    | exc e h2 => rw [e2] at q'; exact q'.elim
    | bad => rw [e2] at q'; exact q'.elim
    | ok b h3 =>
    rw [e2, Res.nx_ok, Res.bind_ok] at q'
    intro g4 b' H4 l4 hn4 rh4 eb
    obtain rfl : b' = b := eb
    have l14 : g'.le h'.length g4 := (l2.trans l3 (Nat.le_refl _)).trans l4 (Nat.le_trans (Nat.le_refl _) hn3)
    have hn14 : h'.length ≤ h3.length := Nat.le_trans hn3 hn4
    cases b' with
    | false =>
      rw [if_neg Bool.false_ne_true] at q' ⊢
      exact ⟨g4, h3, acc, us, wt.go l14 hn14 rh4, q'⟩
    | true =>
      rw [if_pos rfl] at q' ⊢
      refine ⟨g4, σ2, h3, rs3.mono l4 hn4, rh4, ?_⟩
      cases e3 : ms1 σ2 h3 with
      | exc e h2 => rw [e3] at q'; exact q'.elim
      | bad => rw [e3] at q'; exact q'.elim
      | ok s h4 =>
      rw [e3, Res.nx_ok, Res.bind_ok] at q'
      intro g5 J1 H5 l5 hn5 rh5 so1
      have l15 : g'.le h'.length g5 := l14.trans l5 hn14
      have hn15 : h'.length ≤ h4.length := Nat.le_trans hn14 hn5
      exact comp_in (Kn := fun r => Post K (Rep K) g0 h0.length Q E ((r.bind fun acc' h5 => compL2 src.ck ws gm mt ms1 ws1 gm1 mt1 me σ (src.xs.drop (i + 1)) acc' h5).bind fun acc h2 => mkL cell acc h2)) (fun z => z.elim) (wt.go l15 hn15 rh5) so1 ((rs3.mono l4 hn4).mono l5 hn5) q' (fun g' h' acc us H l hn w q => ⟨g', h', acc, us, w, q⟩)
  · obtain ⟨g', h', acc, us, wt, q'⟩ := hh
    have hck := ckof q'
    rw [List.drop_length] at q'
    unfold compL2 at q'
    rw [if_pos hck, Res.bind_ok] at q'
    exact mkL_at wt.rel wt.at_ wt.rep wt.le wt.len wt.np p0 q'
variable {elt tg iter tg1 iter1 : Expr} {ifs ifs1 : List Expr} {scope : Scope} {own : List (Str × Nat)} {ws1 : List Nat} {ms ms1 : LS → VH → Res Src} {gm gm1 : GM} {mt mt1 : TM} {me : EM} {pos : Pos}
theorem SE.lc2 (cell : Bool) (hc : X.calm = true) (hN : X.N.Nodup) (hi : SI c X W tg iter ms) (ok : BlkOk X.N X.env.scope scope own) (hv : ∀ i ∈ ws1, i ∈ own.map (·.2))
    (hg : ∀ (s : Shared) (H : Hp) (C : Addr) (cl : List (Str × Addr)) (fp : List Addr), SGw c (X.blk s H scope (compEnvC scope cl C X.env) fp) tg gm (own.map (·.2)))
    (ht : ∀ (s : Shared) (H : Hp) (C : Addr) (cl : List (Str × Addr)) (fp : List Addr), STs c (X.blk s H scope (compEnvC scope cl C X.env) fp) W0 ifs mt)
    (hi1 : ∀ (s : Shared) (H : Hp) (C : Addr) (cl : List (Str × Addr)) (fp : List Addr), SI c (X.blk s H scope (compEnvC scope cl C X.env) fp) W0 tg1 iter1 ms1)
    (hg1 : ∀ (s : Shared) (H : Hp) (C : Addr) (cl : List (Str × Addr)) (fp : List Addr), SGw c (X.blk s H scope (compEnvC scope cl C X.env) fp) tg1 gm1 ws1)
    (ht1 : ∀ (s : Shared) (H : Hp) (C : Addr) (cl : List (Str × Addr)) (fp : List Addr), STs c (X.blk s H scope (compEnvC scope cl C X.env) fp) W0 ifs1 mt1)
    (he : ∀ (s : Shared) (H : Hp) (C : Addr) (cl : List (Str × Addr)) (fp : List Addr), SE c (X.blk s H scope (compEnvC scope cl C X.env) fp) W0 elt me)
    (hs : ∀ x, foldedSetIterable iter X.env x = pure x := by intro _; rfl) (hs1 : ∀ env x, foldedSetIterable iter1 env x = pure x := by intro _ _; rfl) :
    SE c X W (.ListComp elt [⟨tg, iter, ifs, 0⟩, ⟨tg1, iter1, ifs1, 0⟩] scope pos) (eLc2 cell ms (own.map (·.2)) gm mt ms1 ws1 gm1 mt1 me) := by
  obtain ⟨ti, pi, si⟩ := hi
  refine ⟨_, pe_lc2 (te := teOf (kx c X) me) (tt := ttOf (kx c X) mt) (tt1 := ttOf (kx c X) mt1) (g := tgOf (kx c X) gm (own.map (·.2))) (g1 := tgOf (kx c X) gm1 ws1) (wi1 := tiOf (kx c X) ms1) hc hN pi ok hv (fun s H C cl fp => (hg s H C cl fp).pg) (fun s H C cl fp => (ht s H C cl fp).pts)
    (fun s H C cl fp => (hi1 s H C cl fp).pi) (fun s H C cl fp => (hg1 s H C cl fp).pg) (fun s H C cl fp => (ht1 s H C cl fp).pts) (fun s H C cl fp => (he s H C cl fp).pe) hs hs1, fun g σ h τ H Q rs rh q => ?_⟩
  refine si g σ h τ H _ rs rh ((Post.bind q).imp (fun J H1 ⟨g1, src, h1, m1, q1⟩ => fun D nD => ?_) fun _ _ _ z => z)
  exact comp2_run m1.rep (rs.mono m1.le m1.len) m1.rel nD q1
theorem S1.setLc2 (cell : Bool) {i : Nat} {y : Str} {py spos : Pos} (hc : X.calm = true) (hN : X.N.Nodup) (hy : X.N[i]? = some y) (hyl : X.env.scope.names.lookup y = some .local)
    (hsw : swapsWith (.ListComp elt [⟨tg, iter, ifs, 0⟩, ⟨tg1, iter1, ifs1, 0⟩] scope pos) (some (.Name y py)) spos.line X.env = pure true) (hi : SI c X W tg iter ms) (ok : BlkOk X.N X.env.scope scope own) (hv : ∀ i ∈ ws1, i ∈ own.map (·.2))
    (hg : ∀ (s : Shared) (H : Hp) (C : Addr) (cl : List (Str × Addr)) (fp : List Addr), SGw c (X.blk s H scope (compEnvC scope cl C X.env) fp) tg gm (own.map (·.2)))
    (ht : ∀ (s : Shared) (H : Hp) (C : Addr) (cl : List (Str × Addr)) (fp : List Addr), STs c (X.blk s H scope (compEnvC scope cl C X.env) fp) W0 ifs mt)
    (hi1 : ∀ (s : Shared) (H : Hp) (C : Addr) (cl : List (Str × Addr)) (fp : List Addr), SI c (X.blk s H scope (compEnvC scope cl C X.env) fp) W0 tg1 iter1 ms1)
    (hg1 : ∀ (s : Shared) (H : Hp) (C : Addr) (cl : List (Str × Addr)) (fp : List Addr), SGw c (X.blk s H scope (compEnvC scope cl C X.env) fp) tg1 gm1 ws1)
    (ht1 : ∀ (s : Shared) (H : Hp) (C : Addr) (cl : List (Str × Addr)) (fp : List Addr), STs c (X.blk s H scope (compEnvC scope cl C X.env) fp) W0 ifs1 mt1)
    (he : ∀ (s : Shared) (H : Hp) (C : Addr) (cl : List (Str × Addr)) (fp : List Addr), SE c (X.blk s H scope (compEnvC scope cl C X.env) fp) W0 elt me)
    (hs : ∀ x, foldedSetIterable iter X.env x = pure x := by intro _; rfl) (hs1 : ∀ env x, foldedSetIterable iter1 env x = pure x := by intro _ _; rfl) :
    S1 c X W (.Assign [.Name y py] (.ListComp elt [⟨tg, iter, ifs, 0⟩, ⟨tg1, iter1, ifs1, 0⟩] scope pos) spos) (sSet i (eLc2 cell ms (own.map (·.2)) gm mt ms1 ws1 gm1 mt1 me)) := by
  obtain ⟨ti, pi, si⟩ := hi
  refine ⟨_, ps_setLc2 (te := teOf (kx c X) me) (tt := ttOf (kx c X) mt) (tt1 := ttOf (kx c X) mt1) (g := tgOf (kx c X) gm (own.map (·.2))) (g1 := tgOf (kx c X) gm1 ws1) (wi1 := tiOf (kx c X) ms1) hc hN hy hyl hsw pi ok hv (fun s H C cl fp => (hg s H C cl fp).pg) (fun s H C cl fp => (ht s H C cl fp).pts)
    (fun s H C cl fp => (hi1 s H C cl fp).pi) (fun s H C cl fp => (hg1 s H C cl fp).pg) (fun s H C cl fp => (ht1 s H C cl fp).pts) (fun s H C cl fp => (he s H C cl fp).pe) hs hs1, fun g σ h τ H D rs rh q => ?_⟩
  have q' : Post (kx c X) (Rep (kx c X)) g h.length (fun u H1 => gName i u τ H1 D.nx) (at_ W τ) (eLc2 cell ms (own.map (·.2)) gm mt ms1 ws1 gm1 mt1 me σ h) :=
    (PostS.then rs q).imp (fun u H1 ⟨g1, x, h1, m1, q1⟩ => q1 g1 _ H1 (Gh.le.refl _ _) (Nat.le_refl _) m1.rel ((rs.mono m1.le m1.len).set i m1.rep)) fun _ _ _ z => z
  refine si g σ h τ H _ rs rh ((Post.bind q').imp (fun J H1 ⟨g1, src, h1, m1, q1⟩ => fun D nD => ?_) fun _ _ _ z => z)
  exact comp2_run m1.rep (rs.mono m1.le m1.len) m1.rel nD q1
/-! ### two clauses, plainly -/
theorem comp2_ints {ck : List (Nat × List PV)} {ws ws1 : List Nat} {gm gm1 : GM} {mt mt1 : TM} {me : EM} {ms1 : LS → VH → Res Src} {σ : LS} {xs : List PV} {h : VH} (hck : ckOk ck h) (F : Nat → List PV)
    (hx : ∀ i x acc, xs[i]? = some x → acc.length + (F i).length ≤ 16777216 → ∃ σ2 s, gm x (wipeL σ ws) h = .ok σ2 h ∧ mt σ2 h = .ok true h ∧ ms1 σ2 h = .ok s h ∧ compL s.ck ws1 gm1 mt1 me σ2 s.xs acc h = .ok (acc ++ F i) h) :
    ∀ (k : Nat) (acc : List PV) (ys : List PV), ys = xs.drop k → k ≤ xs.length → acc.length + (((List.range (xs.length - k)).map fun i => (F (k + i)).length).sum) ≤ 16777216 →
      compL2 ck ws gm mt ms1 ws1 gm1 mt1 me σ ys acc h = .ok (acc ++ ((List.range (xs.length - k)).map fun i => F (k + i)).flatten) h := by
  intro k acc ys
  induction ys generalizing k acc with
  | nil =>
    intro e hk _
    have : xs.length - k = 0 := by have := congrArg List.length e; simp at this; omega
    rw [this]
    unfold compL2
    rw [if_pos hck]; simp
  | cons y ys ih =>
    intro e hk hl
    have hlt : k < xs.length := by have := congrArg List.length e; simp at this; omega
    rw [List.drop_eq_getElem_cons hlt] at e
    obtain ⟨rfl, rfl⟩ := List.cons.inj e
    have er : List.range (xs.length - k) = 0 :: (List.range (xs.length - (k + 1))).map (· + 1) := by
      rw [show xs.length - k = (xs.length - (k + 1)) + 1 by omega, List.range_succ_eq_map]
    rw [er, List.map_cons, List.sum_cons, List.map_map] at hl
    have e2 : ((fun i => (F (k + i)).length) ∘ fun x => x + 1) = fun i => (F (k + 1 + i)).length := by funext i; simp only [Function.comp]; congr 2; omega
    have e3 : ((fun i => F (k + i)) ∘ fun x => x + 1) = fun i => F (k + 1 + i) := by funext i; simp only [Function.comp]; congr 1; omega
    rw [e2] at hl
    simp only [Nat.add_zero] at hl
    obtain ⟨σ2, s, h1, h2, h3, h4⟩ := hx k _ acc (List.getElem?_eq_getElem hlt) (by omega)
    unfold compL2
    rw [if_pos hck, h1]
    simp only [Res.nx_ok, Res.bind_ok, h2, if_true, h3, h4]
    rw [ih (k + 1) _ rfl hlt (by rw [List.length_append]; omega), er, List.map_cons, List.map_map, e3, List.flatten_cons, List.append_assoc]
    rfl
end
end Pm
namespace Pm
open PySem PySem.Spec L2 PyProof.Rows
/-! ### several except clauses, some with a name -/
section
abbrev Cla := Value × Option Nat × (Addr → Value → Option Addr → TS)
def dOut (o : Option Nat) (D : Ends) : Ends := { nx := fun s h => D.nx (undo o s) h, rt := D.rt, bk := fun s h => D.bk (undo o s) h, ct := fun s h => D.ct (undo o s) h }
def sIn (o : Option Nat) (a : Addr) (s : L2.St) : L2.St := match o with
  | some i => s.set i (some (.ref a))
  | none => s
def wCla (K : PySem.W.Frag) (Wout : WX) (D : Ends) : List Cla → WX
  | [] => Wout
  | q :: r => fun cls d s h => ∃ b, PySem.W.exmOne K cls q.1 = some b ∧ (b = true → ∀ a, h a = none → q.2.2 a cls d (dOut q.2.1 D) (sIn q.2.1 a s) h) ∧ (b = false → wCla K Wout D r cls d s h)
inductive ClaOk (X : Cx) : List ExceptHandler → List Cla → Prop
  | nil : ClaOk X [] []
  | named {x n : Str} {k : Value} {i : Nat} {ts : Addr → Value → Option Addr → TS} {b0 : Stmt} {su : List Stmt} {q1 q2 : Pos} {hl : List ExceptHandler} {l : List Cla} (nm : Names X x k) (hi : X.N[i]? = some n) (lc : X.env.kindOf n = some .local)
      (ok : ∀ (a : Addr) (oe : Obj) (cls : Value) (d : Option Addr) (pn : List (Addr × Obj)), Zc cls d oe → (∃ vs, oe.data = .fields vs) → PSs (X.suite a ((a, oe) :: pn)) (b0 :: su) (ts a cls d)) (r : ClaOk X hl l) :
      ClaOk X (.ExceptHandler (some (.Name x q1)) (some n) (b0 :: su) q2 :: hl) ((k, some i, ts) :: l)
  | bare {x : Str} {k : Value} {ts : Addr → Value → Option Addr → TS} {b0 : Stmt} {su : List Stmt} {q1 q2 : Pos} {hl : List ExceptHandler} {l : List Cla} (nm : Names X x k)
      (ok : ∀ (a : Addr) (oe : Obj) (cls : Value) (d : Option Addr) (pn : List (Addr × Obj)), Zc cls d oe → (∃ vs, oe.data = .fields vs) → PSs (X.suite a ((a, oe) :: pn)) (b0 :: su) (ts a cls d)) (r : ClaOk X hl l) :
      ClaOk X (.ExceptHandler (some (.Name x q1)) none (b0 :: su) q2 :: hl) ((k, none, ts) :: l)
variable {X : Cx} {body : List Stmt} {h1 : ExceptHandler} {hl : List ExceptHandler} {l : List Cla} {pos : Pos} {tb : WX → TS} {Wout : WX}
theorem ps_try_cla (hst : X.stack = X.env :: X.outer) (hf : X.env.frame = some X.env.locals) (nd : X.N.Nodup) (tk : Takes X Wout)
    (hb : ∀ (Wi : WX) (pn : List (Addr × Obj)) (xe : Value → Shared → Prop), Takes (X.tr pn xe) Wi → PassesOwn (model X.prog X.w) X.A X.env xe → PSs (X.tr pn xe) body (tb Wi)) (hc : ClaOk X (h1 :: hl) l) :
    PS X (.Try body (h1 :: hl) [] [] pos) (fun D s h => tb (wCla X.K Wout D l) D s h) := by
  refine ⟨fun pins sv τ H0 D I hh => ?_⟩
  have okX := I.ok
  have fr : X.A.frames = some (X.env :: X.outer) := okX.frames.trans (congrArg some hst)
  refine wpAny_Try_except ?_
  obtain ⟨Xe, hXe⟩ : ∃ Xe : Value → Shared → Prop, Xe = fun x z => wpAny (model X.prog X.w) X.A (noteFrame x X.env) (fun _ z2 => wpAny (model X.prog X.w) X.A (setFlight x none) (fun _ z3 => wpAny (model X.prog X.w) X.A (handleBy x X.env (h1 :: hl)) (SP X pins D) X.xe z3) X.xe z2) X.xe z := ⟨_, rfl⟩
  have tkb : Takes (X.tr (X.pn ++ pins) Xe) (wCla X.K Wout D l) := fun u z xx => by
    obtain ⟨a, B, zI, pinsB, τb, Hb, cls, d, eu, Jb, nb, up, sky, na, os, ag, wish⟩ := xx
    subst eu
    have J : Inv X pins τb Hb zI := Jb.ofTry okX
    have skyX : Sky B (X.env :: X.outer) a (Zc cls d) X.env.locals z.heap := hst ▸ sky
    show Xe (.ref a) z
    rw [hXe]
    show wpAny _ _ (noteFrame (.ref a) X.env) _ _ _
    refine skyX.land Zc.steady fr hf fun hp fl upp => ?_
    have J3 : Inv X pins τb Hb { z with heap := hp } := J.landed nb fl.1 (up.trans upp) os ag
    obtain ⟨ob, fs, eob, zob, dob⟩ := fl.there
    have off : a ∉ frs (X.env :: X.outer) := fun m => by
      obtain ⟨_, o2, e2, no⟩ := (fl.2.2.1).mem m
      rw [eob] at e2
      cases e2
      exact no _ dob
    have nL : a ≠ X.env.locals := fun q => off (List.mem_filterMap.mpr ⟨X.env, List.mem_cons_self, by rw [hf, q]⟩)
    have nF : a ∉ X.fs := fun m => by
      obtain ⟨v, hv, q⟩ := List.mem_filterMap.mp m
      exact off (List.mem_filterMap.mpr ⟨v, List.mem_cons_of_mem _ hv, q⟩)
    have S3 := J3.suite eob dob na nL nF
    have cl : ∀ {hs : List ExceptHandler} {ls : List Cla}, ClaOk X hs ls → wCla X.K Wout D ls cls d τb Hb → wpAny (model X.prog X.w) X.A (handleBy (.ref a) X.env hs) (SP X pins D) X.xe { z with heap := hp } := by
      intro hs ls kk
      induction kk with
      | nil =>
        intro wi
        refine wpAny_handleBy_nil ?_
        obtain ⟨_, _, _, o4, f4, T, oT, t4, g4, z4, d4, h4, _⟩ := id fl
        unfold PySem.passOn
        refine wpAny_bind (wpAny_field g4 d4 h4 ?_)
        rw [if_neg (show ¬ ((Value.ref T == Value.none) = true) by simp)]
        have out : wpAny (model X.prog X.w) X.A (setFlight (.ref a) X.env.frame) (fun _ y => wpAny (model X.prog X.w) X.A (throw (.ref a) : Sem Flow) (SP X pins D) X.xe y) X.xe { z with heap := hp } := by
          rw [hf]
          refine HandSPX.setFlight_upZ fl fun h5 fly up5 => wpAny_throw (tk _ _ ?_)
          exact ⟨a, B, zI, pins, τb, Hb, cls, d, rfl, J, nb, (up.trans upp).trans up5, .inr (.inr (by rw [hst]; exact fly)), na, os, ag, wi⟩
        first
          | exact wpAny_bind (wpAny_pure (wpAny_bind out))
          | exact wpAny_bind out
      | @named x n k i ts b0 su q1 q2 hs2 l2 nm hi lc okS r ih =>
        intro wi
        obtain ⟨b, eb, yes, no⟩ := wi
        refine wpAny_handleBy_cons (codeAny_handlers_test ?_) (fun q => by cases q)
        have ty : PySem.W.Looks (model X.prog X.w) hp (typeOf (.ref a)) cls := fun A Q E y kp q => wpAny_typeOf_ref (kp _ _ eob) (by rw [zob.1]; exact q)
        have ex := PySem.W.exm_one (M := model X.prog X.w) J3.kIn ty eb
        have name : ∀ {Q E : Value → Shared → Prop}, Q k { z with heap := hp } → wpAny (model X.prog X.w) (X.A.mark (some (.ref a))) (eval (.Name x q1) X.env) Q E { z with heap := hp } := fun {Q E} q => by
          rcases nm with ⟨gl, db, m | ⟨m, bv, nn⟩⟩
          · exact ld_glob (X := X.suite a ((a, ob) :: (X.pn ++ pins))) S3 gl m q db
          · exact ld_blt (X := X.suite a ((a, ob) :: (X.pn ++ pins))) S3 gl m bv q nn db
        refine name (ex.here ?_)
        cases b with
        | false => exact ih (no rfl)
        | true =>
          refine codeAny_handlers_suite_as ?_
          refine HandSPX.lands_againZ fl fun h6 fl6 up6 => ?_
          have J6 : Inv X pins τb Hb { z with heap := h6 } := J.landed nb fl6.1 ((up.trans upp).trans up6) os ag
          obtain ⟨o6, f6, e6, z6, d6⟩ := fl6.there
          refine store_ok (X := X.suite a ((a, o6) :: (X.pn ++ pins))) (v := V.ref a) (J6.suite e6 d6 na nL nF) nd hi (.inl lc) rfl (fun y S7 => ?_) (.inr lc)
          refine wpAny_mono ((okS a o6 cls d (X.pn ++ pins) z6 ⟨_, d6⟩).run [] y _ Hb _ S7 (yes rfl a na)) (fun fw y6 sp => ?_) (fun _ _ q => q.elim)
          have unb : ∀ {τ6 : L2.St} {H6 : Hp} {Q : Shared → Prop}, Inv (X.suite a ((a, o6) :: (X.pn ++ pins))) [] τ6 H6 y6 → (∀ y7, Inv X pins (τ6.set i none) H6 y7 → Q y7) →
              wpAny (model X.prog X.w) X.A (do bindName X.env n .none; unbindBehindTheSuite X.env n q2) (fun _ y7 => Q y7) X.xe y6 := fun {τ6 H6 Q} S6 hq => gone_ok (S6.unsuite okX) nd hi lc hq
          cases fw with
          | next => exact let ⟨_, _, S6, q6⟩ := sp; unb S6 fun _ J7 => ⟨_, _, J7, q6⟩
          | brk => exact let ⟨_, _, S6, q6⟩ := sp; unb S6 fun _ J7 => ⟨_, _, J7, q6⟩
          | cont => exact let ⟨_, _, S6, q6⟩ := sp; unb S6 fun _ J7 => ⟨_, _, J7, q6⟩
          | ret v => exact let ⟨_, _, _, S6, r6, q6⟩ := sp; unb S6 fun _ J7 => ⟨_, _, _, J7, r6, q6⟩
      | @bare x k ts b0 su q1 q2 hs2 l2 nm okS r ih =>
        intro wi
        obtain ⟨b, eb, yes, no⟩ := wi
        refine wpAny_handleBy_cons (codeAny_handlers_test ?_) (fun q => by cases q)
        have ty : PySem.W.Looks (model X.prog X.w) hp (typeOf (.ref a)) cls := fun A Q E y kp q => wpAny_typeOf_ref (kp _ _ eob) (by rw [zob.1]; exact q)
        have ex := PySem.W.exm_one (M := model X.prog X.w) J3.kIn ty eb
        have name : ∀ {Q E : Value → Shared → Prop}, Q k { z with heap := hp } → wpAny (model X.prog X.w) (X.A.mark (some (.ref a))) (eval (.Name x q1) X.env) Q E { z with heap := hp } := fun {Q E} q => by
          rcases nm with ⟨gl, db, m | ⟨m, bv, nn⟩⟩
          · exact ld_glob (X := X.suite a ((a, ob) :: (X.pn ++ pins))) S3 gl m q db
          · exact ld_blt (X := X.suite a ((a, ob) :: (X.pn ++ pins))) S3 gl m bv q nn db
        refine name (ex.here ?_)
        cases b with
        | false => exact ih (no rfl)
        | true =>
          refine codeAny_handlers_suite ?_
          refine HandSPX.lands_againZ fl fun h6 fl6 up6 => ?_
          have J6 : Inv X pins τb Hb { z with heap := h6 } := J.landed nb fl6.1 ((up.trans upp).trans up6) os ag
          obtain ⟨o6, f6, e6, z6, d6⟩ := fl6.there
          refine wpAny_mono ((okS a o6 cls d (X.pn ++ pins) z6 ⟨_, d6⟩).run [] _ _ Hb _ (J6.suite e6 d6 na nL nF) (yes rfl a na)) (fun fw y6 sp => ?_) (fun _ _ q => q.elim)
          cases fw with
          | next => exact let ⟨_, _, S6, q6⟩ := sp; ⟨_, _, S6.unsuite okX, q6⟩
          | brk => exact let ⟨_, _, S6, q6⟩ := sp; ⟨_, _, S6.unsuite okX, q6⟩
          | cont => exact let ⟨_, _, S6, q6⟩ := sp; ⟨_, _, S6.unsuite okX, q6⟩
          | ret v => exact let ⟨_, _, _, S6, r6, q6⟩ := sp; ⟨_, _, _, S6.unsuite okX, r6, q6⟩
    exact cl hc wish
  have pass : PassesOwn (model X.prog X.w) X.A X.env Xe := by rw [hXe]; exact PassesOwn.looking
  refine wpAny_mono ((hb (wCla X.K Wout D l) (X.pn ++ pins) Xe tkb pass).run [] sv τ H0 D (I.toTry _) hh) (fun fw z sp => ?_) (fun x z q => by rw [hXe] at q; exact q)
  cases fw with
  | next => exact let ⟨_, _, J2, q⟩ := sp; wpAny_execs_nil ⟨_, _, J2.ofTry okX, q⟩
  | brk => exact let ⟨_, _, J2, q⟩ := sp; ⟨_, _, J2.ofTry okX, q⟩
  | cont => exact let ⟨_, _, J2, q⟩ := sp; ⟨_, _, J2.ofTry okX, q⟩
  | ret v => exact let ⟨_, _, _, J2, r, q⟩ := sp; ⟨_, _, _, J2.ofTry okX, r, q⟩
end
abbrev MC := (Nat → Option Bool) × Option Nat × (PX → SM)
noncomputable def mCla : List MC → PX → SM
  | [], e => fun σ h => .xc e σ h
  | q :: r, e => fun σ h => match q.1 e.C with
    | some true => unb q.2.1 (q.2.2 e (seti q.2.1 σ) h)
    | some false => mCla r e σ h
    | none => .bad
noncomputable def sTryM (l : List MC) (mb : SM) : SM := fun σ h => match mb σ h with
  | .xc e σ' h' => mCla l e σ' h'
  | r => r
theorem sTryM_def (l : List MC) (mb : SM) (σ : LS) (h : VH) : sTryM l mb σ h = (match mb σ h with
  | .xc e σ' h' => mCla l e σ' h'
  | r => r) := rfl
theorem sTryM_nx {l : List MC} {mb : SM} {σ σ' : LS} {h h' : VH} (e : mb σ h = .nx σ' h') : sTryM l mb σ h = .nx σ' h' := by rw [sTryM_def, e]
theorem sTryM_rt {l : List MC} {mb : SM} {σ : LS} {h h' : VH} {v : PV} (e : mb σ h = .rt v h') : sTryM l mb σ h = .rt v h' := by rw [sTryM_def, e]
theorem sTryM_xc {l : List MC} {mb : SM} {σ σ' : LS} {h h' : VH} {x : PX} (e : mb σ h = .xc x σ' h') : sTryM l mb σ h = mCla l x σ' h' := by rw [sTryM_def, e]
theorem mCla_yes {q : MC} {r : List MC} {e : PX} {σ : LS} {h : VH} (b : q.1 e.C = some true) : mCla (q :: r) e σ h = unb q.2.1 (q.2.2 e (seti q.2.1 σ) h) := by unfold mCla; simp only [b]
theorem mCla_no {q : MC} {r : List MC} {e : PX} {σ : LS} {h : VH} (b : q.1 e.C = some false) : mCla (q :: r) e σ h = mCla r e σ h := by conv => lhs; unfold mCla; simp only [b]
section
variable {c : Ck} {X : Cx}
/-- the clauses' derivations -/
inductive MClaOk (c : Ck) (X : Cx) : List ExceptHandler → List MC → Prop
  | nil : MClaOk c X [] []
  | named {x n : Str} {k : Value} {i : Nat} {sub : Nat → Option Bool} {ms : PX → SM} {b0 : Stmt} {su : List Stmt} {q1 q2 : Pos} {hl : List ExceptHandler} {l : List MC} (nm : Names X x k) (hi : X.N[i]? = some n) (lc : X.env.kindOf n = some .local)
      (hsub : ∀ C b, sub C = some b → PySem.W.exmOne X.K (.ref (c C)) k = some b)
      (ok : ∀ (a dd : Addr) (e : PX) (oe : Obj) (pn : List (Addr × Obj)), Zc (.ref (c e.C)) (some dd) oe → (∃ vs, oe.data = .fields vs) → SS (c.exc a dd e) (X.suite a ((a, oe) :: pn)) W0 (b0 :: su) (ms e)) (r : MClaOk c X hl l) :
      MClaOk c X (.ExceptHandler (some (.Name x q1)) (some n) (b0 :: su) q2 :: hl) ((sub, some i, ms) :: l)
  | bare {x : Str} {k : Value} {sub : Nat → Option Bool} {ms : PX → SM} {b0 : Stmt} {su : List Stmt} {q1 q2 : Pos} {hl : List ExceptHandler} {l : List MC} (nm : Names X x k)
      (hsub : ∀ C b, sub C = some b → PySem.W.exmOne X.K (.ref (c C)) k = some b)
      (ok : ∀ (a dd : Addr) (e : PX) (oe : Obj) (pn : List (Addr × Obj)), Zc (.ref (c e.C)) (some dd) oe → (∃ vs, oe.data = .fields vs) → SS (c.exc a dd e) (X.suite a ((a, oe) :: pn)) W0 (b0 :: su) (ms e)) (r : MClaOk c X hl l) :
      MClaOk c X (.ExceptHandler (some (.Name x q1)) none (b0 :: su) q2 :: hl) ((sub, none, ms) :: l)
theorem MClaOk.cla (hx0 : c.ex = none) {hl : List ExceptHandler} {l : List MC} (m : MClaOk c X hl l) : ∃ l', ClaOk X hl l' ∧
    ∀ (g : Gh) (n : Nat) (g' : Gh) (σ : LS) (h : VH) (τ : L2.St) (H : Hp) (D : Ends) (W : WX) (e : PX) (cls : Value) (d : Option Addr), g.le n g' → n ≤ h.length → RelH (kx c X) g' h H → RelS (kx c X) g' h.length σ τ → RepX (kx c X) g' h.length e cls d H →
      PostS (kx c X) g n D W (mCla l e σ h) → wCla X.K W D l' cls d τ H := by
  induction m with
  | nil => exact ⟨[], .nil, fun g n g' σ h τ H D W e cls d l hn rh rs rx q => q g' cls d τ H l hn rh rs rx⟩
  | @named x n k i sub ms b0 su q1 q2 hl l nm hi lc hsub ok r ih =>
    obtain ⟨l', cl, sem⟩ := ih
    refine ⟨_, .named nm hi lc (su_pss ok) cl, fun g n g' σ h τ H D W e cls d l hn rh rs rx q => ?_⟩
    obtain ⟨cc, ex⟩ := c
    dsimp only at hx0
    subst hx0
    obtain ⟨ec, dd, gs, ed, hd, rf⟩ := id rx
    cases hb : sub e.C with
    | none => unfold mCla at q; simp only [hb] at q; exact q.elim
    | some b =>
      cases b with
      | true =>
        rw [mCla_yes hb] at q
        subst ec ed
        refine ⟨true, hsub _ _ hb, fun _ a na => ⟨e, dd, rfl, rfl, g', σ.set i (some .exn), h, ?_, rh.enter hd rf, unb_post (PostS.up q l hn)⟩, fun z => by cases z⟩
        exact (RelS.enter rs).set i (by simp only [Rep]; exact ⟨a, dd, e, rfl, rfl⟩)
      | false =>
        rw [mCla_no hb] at q
        refine ⟨false, by rw [ec]; exact hsub _ _ hb, fun z => (by cases z), fun _ => sem g n g' σ h τ H D W e cls d l hn rh rs rx q⟩
  | @bare x k sub ms b0 su q1 q2 hl l nm hsub ok r ih =>
    obtain ⟨l', cl, sem⟩ := ih
    refine ⟨_, .bare nm (su_pss ok) cl, fun g n g' σ h τ H D W e cls d l hn rh rs rx q => ?_⟩
    obtain ⟨cc, ex⟩ := c
    dsimp only at hx0
    subst hx0
    obtain ⟨ec, dd, gs, ed, hd, rf⟩ := id rx
    cases hb : sub e.C with
    | none => unfold mCla at q; simp only [hb] at q; exact q.elim
    | some b =>
      cases b with
      | true =>
        rw [mCla_yes hb] at q
        subst ec ed
        exact ⟨true, hsub _ _ hb, fun _ a na => ⟨e, dd, rfl, rfl, g', σ, h, RelS.enter rs, rh.enter hd rf, unb_post (o := none) (PostS.up q l hn)⟩, fun z => by cases z⟩
      | false =>
        rw [mCla_no hb] at q
        refine ⟨false, by rw [ec]; exact hsub _ _ hb, fun z => (by cases z), fun _ => sem g n g' σ h τ H D W e cls d l hn rh rs rx q⟩
theorem S1.tryM {body : List Stmt} {h1 : ExceptHandler} {hl : List ExceptHandler} {l : List MC} {pos : Pos} {mb : SM} {Wout : WX} (hx0 : c.ex = none) (hs : X.stack = X.env :: X.outer) (hf : X.env.frame = some X.env.locals) (hN : X.N.Nodup) (tk : Takes X Wout)
    (hb : ∀ (W : WX) (pn : List (Addr × Obj)) (xe : Value → Shared → Prop), Takes (X.tr pn xe) W → PassesOwn (model X.prog X.w) X.A X.env xe → SS c (X.tr pn xe) W body mb)
    (m : MClaOk c X (h1 :: hl) l) : S1 c X Wout (.Try body (h1 :: hl) [] [] pos) (sTryM l mb) := by
  obtain ⟨l', cl, sem⟩ := m.cla hx0
  refine ⟨_, ps_try_cla (tb := fun W => tsOf (kx c X) W mb) hs hf hN tk (fun W pn xe t p => (hb W pn xe t p).pss) cl, fun g σ h τ H D rs rh q => ⟨g, σ, h, rs, rh, ?_⟩⟩
  rw [sTryM_def] at q
  generalize mb σ h = r at q ⊢
  cases r with
  | nx σ' h' => exact q
  | bk σ' h' => exact q
  | ct σ' h' => exact q
  | rt v h' => exact q
  | bad => exact q
  | xc e σ' h' => exact fun g' cls d τ' H' l hn rh' rs' rx => sem g h.length g' σ' h' τ' H' D Wout e cls d l hn rh' rs' rx q
end
end Pm
namespace Pm
open PySem PySem.Spec L2 PyProof.Rows
/-! ### range with a step -/
def srcRng3 : List PV → VH → Res Src
  | [.int i, .int j, .int c], h => if c ≠ 0 ∧ c.natAbs < 1073741824 ∧ Builtin.Range.small i j c = true ∧ Builtin.Range.rangeSize i j c = ((Builtin.Range.rangeSize i j c).toNat : Int) then .ok ⟨stepI i c (Builtin.Range.rangeSize i j c).toNat, []⟩ h else .bad
  | _, _ => .bad
theorem rng3_ok {K : Kc} {g : Gh} {h : VH} {lo c : Int} {n : Nat} : SrcOk K g h.length ⟨stepI lo c n, []⟩ (Itc lo c n) := by
  refine ⟨_, _, by rw [stepI_length]; exact walk_rangeC, fun _ _ _ _ _ _ _ => trivial, fun i x g' h' H' H2 l hn rh' _ hx u hu => ?_⟩
  obtain ⟨rfl, rfl⟩ := hu
  refine ⟨g', Gh.le.refl _ _, rh', ?_⟩
  have hx : (stepI lo c n)[i]? = some x := hx
  simp only [stepI, List.getElem?_map] at hx
  by_cases hi : i < n
  · rw [List.getElem?_range hi] at hx
    cases hx
    exact repI
  · rw [List.getElem?_eq_none (by simpa using hi)] at hx
    cases hx
def iRng3s (ms : AM) : LS → VH → Res Src := fun σ h => (ms σ h).bind srcRng3
theorem iRng3s_def (ms : AM) (σ : LS) (h : VH) : iRng3s ms σ h = (ms σ h).bind srcRng3 := rfl
section
variable {c : Ck} {X : Cx} {W : WX} {tg e e2 e3 : Expr} {ms : AM} {p pos : Pos}
theorem SI.range3 (hg : Gl X "range") (hm : X.mg "range" = none) (ha : SA c X W [e, e2, e3] ms)
    (hs : starEach [e, e2, e3] X.env = (false, eval e X.env) :: starEach [e2, e3] X.env := by rfl) (hs2 : (backTo pos (starEach [e2, e3] X.env)).any (·.1) = false := by rfl) : SI c X W tg (.Call (.Name "range" p) [e, e2, e3] [] pos) (iRng3s ms) := by
  obtain ⟨la, t, pa, s⟩ := ha
  refine ⟨_, pi_range3 hg hm pa hs hs2, fun g σ h τ H R rs rh q => s g σ h τ H _ rs rh ?_⟩
  dsimp only [iRng3s] at q
  generalize ms σ h = res at q
  cases res with
  | ok xs h' =>
    intro g1 us H1 l hn rh1 ru
    have q1 := Post.up q l hn
    rw [Res.bind_ok] at q1
    unfold srcRng3 at q1
    split at q1
    · split at q1
      · rename_i hz
        obtain ⟨u, v, w, rfl, r1, r2, r3⟩ := ru.three
        simp only [Rep] at r1 r2 r3
        exact ⟨_, _, _, _, by rw [r1, r2, r3], hz, Post.go (E := at_ W τ) q1 rh1 rng3_ok⟩
      · exact q1.elim
    · exact q1.elim
  | exc e' h' => exact q
  | bad => exact q
end
end Pm
namespace Pm
open PySem PySem.Spec L2 PyProof.Rows
/-! ### zip of a tuple and a list -/
section
abbrev znA (h : Heap) (l1 : Addr) : Heap := h.push { cls := .type "list_iterator", data := .fields #[.ref l1, .int 0 0] }
abbrev znB (h : Heap) (l1 l2 : Addr) : Heap := (znA h l1).push { cls := .type "tuple_iterator", data := .fields #[.ref l2, .int 0 0] }
abbrev znC (h : Heap) (l1 l2 : Addr) : Heap := (znB h l1 l2).push { cls := .type "tuple", data := .seq #[.ref h.objs.size, .ref (znA h l1).objs.size] }
abbrev znD (h : Heap) (l1 l2 : Addr) : Heap := (znC h l1 l2).push { cls := .type "tuple", data := .seq #[.none, .none] }
abbrev znE (h : Heap) (l1 l2 : Addr) : Heap := (znD h l1 l2).push { cls := .type "zip", data := .fields #[.none, .bool false, .bool false, .ref (znB h l1 l2).objs.size, .ref (znC h l1 l2).objs.size] }
theorem meets_zipLT (l1 l2 : Addr) (xs ys : Array Value) :
    Meets (Builtin.«zip.__new__» ⟨[.type "zip", .ref l1, .ref l2], []⟩) (fun _ R s => s.heap.IsList l1 xs ∧ s.heap.IsTuple l2 ys ∧ R (.ok (.ret (.ref (znD s.heap l1 l2).objs.size))) { s with heap := znE s.heap l1 l2 }) :=
  .of_wp fun prog w A R s h => by
    obtain ⟨hp, g, d, tk, os⟩ := s
    obtain ⟨a1, a2, a3⟩ := h
    have hsub := sub_zip
    have b1 : Heap.IsList (Shared.heap ⟨hp, g, d, tk, os⟩) l1 xs := a1
    have b2 : Heap.IsTuple (Shared.heap ⟨znA hp l1, g, d, tk, os⟩) l2 ys := Heap.IsTuple.push a2 _
    wp_walk using wpAny_pyIter_list b1, wpAny_pyIter_tuple b2
    exact ⟨_, rfl, a3⟩
variable {prog : Program} {w : World} {A : Around} {E : Value → Shared → Prop} {s : Shared}
theorem call_zipLT {l1 l2 : Addr} {xs ys : Array Value} {Q : Value → Shared → Prop} (a1 : s.heap.IsList l1 xs) (a2 : s.heap.IsTuple l2 ys)
    (h : ∀ h', IsZip h' (s.heap.objs.size + 4) (s.heap.objs.size + 2) (s.heap.objs.size + 3) .none → IsPair h' (s.heap.objs.size + 2) (.ref s.heap.objs.size) (.ref (s.heap.objs.size + 1)) → IsPair h' (s.heap.objs.size + 3) .none .none →
      h'.IsListIter s.heap.objs.size l1 0 → h'.IsTupleIter (s.heap.objs.size + 1) l2 0 → (∀ c o, s.heap.get? c = some o → h'.get? c = some o) → Q (.ref (s.heap.objs.size + 4)) { s with heap := h' }) :
    wpAny (model prog w) A (call (.type "zip") [.ref l1, .ref l2]) Q E s := by
  refine callType_new F.called_zip (by decide) (F.typeCall_zip_2 _ _) (F.newCall_zip_2 _ _) (fun obj => F.args_object_init_3 obj _ _) F.entry_zip_new (meets_zipLT l1 l2 xs ys) ⟨a1, a2, ?_⟩
  have zA : (znA s.heap l1).objs.size = s.heap.objs.size + 1 := Heap.size_push ..
  have zB : (znB s.heap l1 l2).objs.size = s.heap.objs.size + 2 := by rw [Heap.size_push, zA]
  have zC : (znC s.heap l1 l2).objs.size = s.heap.objs.size + 3 := by rw [Heap.size_push, zB]
  have zD : (znD s.heap l1 l2).objs.size = s.heap.objs.size + 4 := by rw [Heap.size_push, zC]
  have up : ∀ {h : Heap} {o o' : Obj} {c : Addr}, h.get? c = some o → (h.push o').get? c = some o := fun e => Heap.get?_push_of_some _ e
  have gE : (znE s.heap l1 l2).get? (znD s.heap l1 l2).objs.size = some _ := Heap.get?_push_size _ rfl
  have gD : (znE s.heap l1 l2).get? (znC s.heap l1 l2).objs.size = some _ := up (Heap.get?_push_size _ rfl)
  have gC : (znE s.heap l1 l2).get? (znB s.heap l1 l2).objs.size = some _ := up (up (Heap.get?_push_size _ rfl))
  have gB : (znE s.heap l1 l2).get? (znA s.heap l1).objs.size = some _ := up (up (up (Heap.get?_push_size _ rfl)))
  have gA : (znE s.heap l1 l2).get? s.heap.objs.size = some _ := up (up (up (up (Heap.get?_push_size _ rfl))))
  show _ ∧ _
  rw [zB, zC, zD] at gE
  rw [zA, zB] at gC
  rw [zC] at gD
  rw [zA] at gB
  rw [zD]
  exact ⟨⟨_, gE, rfl⟩, h _ gE gC gD ⟨_, gA, rfl, rfl⟩ ⟨_, gB, rfl, rfl⟩ fun c o e => up (up (up (up (up e))))⟩
end
/-- a list at a, a list at b, the items in new pairs -/
def ItzLT (K : PySem.W.Frag) (a b : Addr) : It :=
  ⟨fun i H => ∃ (xs ys : List V) (x y : V), SqL K H a xs ∧ SqT K H b ys ∧ xs[i]? = some x ∧ ys[i]? = some y,
    fun i H v H' => ∃ T x y, v = .ref T ∧ H T = none ∧ H' = upd H T (.tup [x, y]) ∧ (∀ xs, SqL K H a xs → xs[i]? = some x) ∧ ∀ ys, SqT K H b ys → ys[i]? = some y,
    fun i H => ∃ xs ys : List V, SqL K H a xs ∧ SqT K H b ys ∧ (xs.length ≤ i ∨ ys.length ≤ i)⟩
theorem turn_zipLT {P : Program} {w : World} {K : PySem.W.Frag} {elts : List Expr} {kk : Nat} {tpos : Pos} {a b z TI TO i1 i2 : Addr} (D : ZipApart z TI TO i1 i2 a b) :
    L2.Turn P w K (.Tuple elts kk tpos) (ItzLT K a b) [z, TI, TO, i1, i2] z (fun i h => IsZip h z TI TO .none ∧ IsPair h TI (.ref i1) (.ref i2) ∧ (∃ x y, IsPair h TO x y) ∧ h.IsListIter i1 a i ∧ h.IsTupleIter i2 b i) where
  mem := by simp
  obj := fun i h st c hc => by
    obtain ⟨hz, hTI, ⟨x, y, hTO⟩, ⟨o1, e1, _, d1⟩, ⟨o2, e2, _, d2⟩⟩ := st
    simp only [List.mem_cons, List.not_mem_nil, or_false] at hc
    rcases hc with rfl | rfl | rfl | rfl | rfl
    · exact ⟨_, hz, fun v q => nomatch q⟩
    · exact ⟨_, hTI, fun v q => nomatch q⟩
    · exact ⟨_, hTO, fun v q => nomatch q⟩
    · exact ⟨o1, e1, fun v q => by rw [d1] at q; cases q⟩
    · exact ⟨o2, e2, fun v q => by rw [d2] at q; cases q⟩
  keep := fun i h h' ⟨hz, hTI, ⟨x, y, hTO⟩, h1, h2⟩ k => ⟨k z (by simp) _ hz, k TI (by simp) _ hTI, ⟨x, y, k TO (by simp) _ hTO⟩, h1.at fun o q => k i1 (by simp) o q, h2.at fun o q => k i2 (by simp) o q⟩
  item := by
    intro X hP hw hK hc i pins s σ H E I hf st hg
    subst hP hw hK
    obtain ⟨hz, hTI, ⟨x0, y0, hTO⟩, h1, h2⟩ := st
    obtain ⟨xs, ys, x, y, qx, qy, hx, hy⟩ := hg
    obtain ⟨its, rv, pp, _⟩ := I.list qx
    obtain ⟨its2, rv2, pp2, _⟩ := I.tuple qy
    obtain ⟨u, hu, ru⟩ := rv.get hx
    obtain ⟨u2, hu2, ru2⟩ := rv2.get hy
    have zlt : z < s.heap.objs.size := Heap.lt_size hz
    refine pyNextG_item (E := E) D (itr_list D.l1i1) (itr_tuple D.l2i2) hz hTI hTO ⟨h1, pp.isList⟩ ⟨h2, pp2⟩ (x := u) (y := u2) (by simpa using hu) (by simpa using hu2) fun h' z' TO' s1 s2 hT hsz hk => ?_
    refine ⟨_, rfl, wpAny_letOwnedTupleGo_zip (s := { s with heap := h' }) z' fun h'' z'' sb => ?_⟩
    have hT2 : h''.get? s.heap.objs.size = some { cls := .type "tuple", data := .seq #[u, u2] } := (sb.2 _ (Nat.ne_of_gt zlt)).trans hT
    have new : ObjOk X.prog X.w (upd H s.heap.objs.size (.tup [x, y])) h'' s.heap.objs.size (.tup [x, y]) :=
      ⟨by show 2 ≤ sizeLine; decide, [u, u2], .cons ru (.cons ru2 .nil), ⟨_, hT2, rfl, _, rfl⟩⟩
    have ne : ∀ c, c ∉ [z, TI, TO, i1, i2] → c ≠ z ∧ c ≠ TO ∧ c ≠ i1 ∧ c ≠ i2 := fun c hb => by
      simp only [List.mem_cons, List.not_mem_nil, or_false, not_or] at hb
      exact ⟨hb.1, hb.2.2.1, hb.2.2.2.1, hb.2.2.2.2⟩
    have I1 : Inv X pins σ (upd H s.heap.objs.size (.tup [x, y])) { s with heap := h'' } :=
      I.turnedNew (t' := s.toks) (ch := [z, TI, TO, i1, i2]) (fun c o hb q => (sb.2 c (ne c hb).1).trans (hk c o (ne c hb).1 (ne c hb).2.1 (ne c hb).2.2.1 (ne c hb).2.2.2 q)) hf (Nat.le_refl _) new
    refine ⟨.ref s.heap.objs.size, _, I1, rfl, ⟨_, x, y, rfl, I.hok.fresh (Nat.le_refl _), rfl, fun l hl => by rw [I.list_inj hl qx]; exact hx, fun l hl => by rw [I.tuple_inj hl qy]; exact hy⟩, ⟨z'', ?_, ⟨u, u2, ?_⟩, ?_, ?_⟩, fun c hcm => ?_⟩
    · exact (sb.2 _ D.TIz).trans (hk _ _ D.TIz D.TITO D.TIi1 D.TIi2 hTI)
    · exact (sb.2 _ D.TOz).trans TO'
    · exact s1.1.at fun o q => (sb.2 _ D.i1z).trans q
    · exact s2.1.at fun o q => (sb.2 _ D.i2z).trans q
    · have hlt : c < s.heap.objs.size := by
        simp only [List.mem_cons, List.not_mem_nil, or_false] at hcm
        rcases hcm with rfl | rfl | rfl | rfl | rfl
        · exact zlt
        · exact Heap.lt_size hTI
        · exact Heap.lt_size hTO
        · obtain ⟨_, e1, _⟩ := h1; exact Heap.lt_size e1
        · obtain ⟨_, e2, _⟩ := h2; exact Heap.lt_size e2
      rw [upd_ne (Nat.ne_of_lt hlt)]
      exact (hf c hcm).1
  done := by
    intro X hP hw hK hc i pins s σ H E I hf st hg
    subst hP hw hK
    obtain ⟨hz, hTI, ⟨x0, y0, hTO⟩, h1, h2⟩ := st
    obtain ⟨xs, ys, qx, qy, hend⟩ := hg
    obtain ⟨its, rv, pp, _⟩ := I.list qx
    obtain ⟨its2, rv2, pp2, _⟩ := I.tuple qy
    have l1 := rv.length
    have l2 := rv2.length
    have he : its.toArray[i]? = none ∨ its2.toArray[i]? = none := by
      rcases hend with q | q
      · exact .inl (by simp; omega)
      · exact .inr (by simp; omega)
    have ne : ∀ c, c ∉ [z, TI, TO, i1, i2] → c ≠ z ∧ c ≠ TO ∧ c ≠ i1 ∧ c ≠ i2 := fun c hb => by
      simp only [List.mem_cons, List.not_mem_nil, or_false, not_or] at hb
      exact ⟨hb.1, hb.2.2.1, hb.2.2.2.1, hb.2.2.2.2⟩
    exact pyNextG_end (I.ok.hd hc) D (itr_list D.l1i1) (itr_tuple D.l2i2) hz hTI hTO ⟨h1, pp.isList⟩ ⟨h2, pp2⟩ he fun h' hk => ⟨rfl, I.turnedL (t' := s.toks) (ch := [z, TI, TO, i1, i2]) (fun c o hb q => hk c o (ne c hb).1 (ne c hb).2.1 (ne c hb).2.2.1 (ne c hb).2.2.2 q) hf⟩
  self := fun A i s Q E st h => wpAny_pyIter_zip st.1 h
end Pm
namespace Pm
open PySem PySem.Spec L2 PyProof.Rows
/-! ### zip of two lists, two tuples, or a tuple and a list -/
def iZipN (K : PySem.W.Frag) (ta : TA) : TI := fun σ H R => ta σ H fun vs H1 => ∃ a b xs ys, vs = [.ref a, .ref b] ∧ ((SqL K H1 a xs ∧ SqL K H1 b ys ∧ R (Itz K a b) H1) ∨ (SqT K H1 a xs ∧ SqT K H1 b ys ∧ R (RZ.ItzT K a b) H1) ∨ (SqL K H1 a xs ∧ SqT K H1 b ys ∧ R (ItzLT K a b) H1))
theorem pi_zipN {X : Cx} {e e2 : Expr} {ta : TA} {p pos tpos : Pos} {elts : List Expr} {kk : Nat} (hg : Gl X "zip") (hm : X.mg "zip" = none) (ha : PA X [e, e2] ta)
    (hs : starEach [e, e2] X.env = (false, eval e X.env) :: starEach [e2] X.env := by rfl) (hpl : (backTo pos (starEach [e2] X.env)).any (·.1) = false := by rfl) :
    PI X (.Tuple elts kk tpos) (.Call (.Name "zip" p) [e, e2] [] pos) (iZipN X.K ta) := by
  refine ⟨fun pins s σ H R I h => ?_⟩
  refine Call_ (ld_blt I hg hm PyProof.Rows.boot_zip (PyProof.Rows.callWith_type1 (thn (ha.run pos pins s σ H _ I h) fun us s1 ⟨vs, H1, I1, r1, q1⟩ => ?_) hs hpl))
  obtain ⟨a, b, xs, ys, rfl, q1⟩ := q1
  obtain ⟨ua, ub, rfl, ra, rb⟩ : ∃ ua ub, us = [ua, ub] ∧ RelV (.ref a) ua ∧ RelV (.ref b) ub := by
    cases r1 with
    | cons r rr => cases rr with
      | cons r' rr => cases rr; exact ⟨_, _, rfl, r, r'⟩
  cases ra
  cases rb
  obtain ⟨n, hn⟩ : ∃ n, n = s1.heap.objs.size := ⟨_, rfl⟩
  have fr : ∀ c, c ∈ [s1.heap.objs.size + 4, s1.heap.objs.size + 2, s1.heap.objs.size + 3, s1.heap.objs.size, s1.heap.objs.size + 1] → FpOk X pins H1 c := fun c hc => by
    have le : s1.heap.objs.size ≤ c := by
      simp only [List.mem_cons, List.not_mem_nil, or_false] at hc; omega
    exact I1.fpOk le (I1.hok.fresh le)
  rcases q1 with ⟨qx, qy, q⟩ | ⟨qx, qy, q⟩ | ⟨qx, qy, q⟩
  · obtain ⟨_, _, p1, _⟩ := I1.list qx
    obtain ⟨_, _, p2, _⟩ := I1.list qy
    refine call_zip_2 p1.isList p2.isList fun h' b1 b2 b3 b4 b5 _ hk => wpAny_pyIter_zip b1 ?_
    exact ⟨_, _, _, _, H1, rfl, I1.kept (t' := s1.toks) hk, turn_zip (PySem.W.ktu_apart s1.heap.objs.size a b p1.lt p2.lt), ⟨b1, b2, ⟨_, _, b3⟩, b4, b5⟩, fr, q⟩
  · obtain ⟨its, _, p1, _⟩ := I1.tuple qx
    obtain ⟨its2, _, p2, _⟩ := I1.tuple qy
    have l1 : a < s1.heap.objs.size := by obtain ⟨_, e, _⟩ := id p1; exact Heap.lt_size e
    have l2 : b < s1.heap.objs.size := by obtain ⟨_, e, _⟩ := id p2; exact Heap.lt_size e
    refine RZ.call_zipT (show s1.heap.IsTuple a its.toArray from p1) (show s1.heap.IsTuple b its2.toArray from p2) fun h' b1 b2 b3 b4 b5 _ hk => wpAny_pyIter_zip b1 ?_
    exact ⟨_, _, _, _, H1, rfl, I1.kept (t' := s1.toks) hk, RZ.turn_zipT (PySem.W.ktu_apart s1.heap.objs.size a b l1 l2), ⟨b1, b2, ⟨_, _, b3⟩, b4, b5⟩, fr, q⟩
  · obtain ⟨its, _, p1, _⟩ := I1.list qx
    obtain ⟨its2, _, p2, _⟩ := I1.tuple qy
    have l2 : b < s1.heap.objs.size := by obtain ⟨_, e, _⟩ := id p2; exact Heap.lt_size e
    refine call_zipLT p1.isList (show s1.heap.IsTuple b its2.toArray from p2) fun h' b1 b2 b3 b4 b5 hk => wpAny_pyIter_zip b1 ?_
    exact ⟨_, _, _, _, H1, rfl, I1.kept (t' := s1.toks) hk, turn_zipLT (PySem.W.ktu_apart s1.heap.objs.size a b p1.lt l2), ⟨b1, b2, ⟨_, _, b3⟩, b4, b5⟩, fr, q⟩
section
variable {K : PySem.W.Frag} {a b : Addr} {n : Nat}
theorem walkLT : Walk (ItzLT K a b) n (fun H => ∃ us vs, SqL K H a us ∧ SqT K H b vs ∧ n = min us.length vs.length) (fun i H v H' => ∃ T x y, v = .ref T ∧ H T = none ∧ H' = upd H T (.tup [x, y]) ∧ (∀ us, SqL K H a us → us[i]? = some x) ∧ ∀ vs, SqT K H b vs → vs[i]? = some y) :=
  ⟨fun i H hi ⟨us, vs, q1, q2, e⟩ => ⟨us, vs, us[i]'(by omega), vs[i]'(by omega), q1, q2, by simp [show i < us.length by omega], by simp [show i < vs.length by omega]⟩, fun H ⟨us, vs, q1, q2, e⟩ => ⟨us, vs, q1, q2, by omega⟩, fun _ _ _ _ _ _ y => y⟩
end
def srcZipN : List PV → VH → Res Src
  | [.lst xs, .tup ys], h => .ok ⟨zipL xs ys, []⟩ h
  | vs, h => srcZip vs h
theorem srcZipN_lt (xs ys : List PV) (h : VH) : srcZipN [.lst xs, .tup ys] h = .ok ⟨zipL xs ys, []⟩ h := rfl
theorem srcZipN_ll (xs ys : List PV) (h : VH) : srcZipN [.lst xs, .lst ys] h = .ok ⟨zipL xs ys, []⟩ h := rfl
section
variable {c : Ck} {X : Cx} {W : WX} {pos p : Pos} {e e2 tg : Expr} {es : List Expr} {m : EM} {ms : AM}
def iZpN (ms : AM) : LS → VH → Res Src := fun σ h => (ms σ h).bind srcZipN
theorem iZpN_def (σ : LS) (h : VH) : iZpN ms σ h = (ms σ h).bind srcZipN := rfl
theorem SI.zipN {elts : List Expr} {kk : Nat} {tpos : Pos} (hg : Gl X "zip") (hm : X.mg "zip" = none) (ha : SA c X W [e, e2] ms) (hs : starEach [e, e2] X.env = (false, eval e X.env) :: starEach [e2] X.env := by rfl) (hpl : (backTo pos (starEach [e2] X.env)).any (·.1) = false := by rfl) :
    SI c X W (.Tuple elts kk tpos) (.Call (.Name "zip" p) [e, e2] [] pos) (iZpN ms) := by
  obtain ⟨la, t, pa, s⟩ := ha
  refine ⟨_, pi_zipN hg hm pa hs hpl, fun g σ h τ H R rs rh q => s g σ h τ H _ rs rh ((Post.bind q).imp (fun us H1 ⟨g1, xs, h1, m1, q1⟩ => ?_) fun _ _ _ z => z)⟩
  unfold srcZipN at q1
  split at q1
  · rename_i xs ys
    obtain ⟨u, v, rfl, rx, ry⟩ := m1.rep.two
    obtain ⟨a, us, rfl, s1, r1⟩ := lstOf_run rx m1.rel (lstOf_lst xs h1)
    obtain ⟨b, vs, rfl, s2, r2⟩ := tup_run ry m1.rel
    refine ⟨a, b, us, vs, rfl, .inr (.inr ⟨s1, .inl (.inl s2), q1.go m1.rel ⟨_, _, walkLT, fun g' h' H' l hn rh' _ => ?_, fun i z g' h' H' H2 l hn rh' _ hz u' hu => ?_⟩⟩)⟩
    · obtain ⟨a', us', e, s', r'⟩ := lstOf_run (rx.mono0 l hn) rh' (lstOf_lst xs h')
      cases e
      obtain ⟨b', vs', e, s2', r2'⟩ := tup_run (ry.mono0 l hn) rh'
      cases e
      exact ⟨us', vs', s', .inl (.inl s2'), by rw [r'.length, r2'.length, zipL_length]⟩
    · obtain ⟨T, x, y, rfl, nT, rfl, hu1, hu2⟩ := hu
      obtain ⟨zx, zy, e1, e2, rfl⟩ := zipL_get hz
      obtain ⟨a', us', e, s', r'⟩ := lstOf_run (rx.mono0 l hn) rh' (lstOf_lst xs h')
      cases e
      obtain ⟨b', vs', e, s2', r2'⟩ := tup_run (ry.mono0 l hn) rh'
      cases e
      obtain ⟨w1, f1, q1⟩ := r'.get e1
      obtain ⟨w2, f2, q2⟩ := r2'.get e2
      have z1 := hu1 us' s'
      have z2 := hu2 vs' (.inl (.inl s2'))
      rw [f1] at z1; cases z1
      rw [f2] at z2; cases z2
      obtain ⟨le, rh2⟩ := RelH.frz (o := .tup [x, y]) rh' nT
      refine ⟨_, le, rh2, ?_⟩
      simp only [Rep]
      exact ⟨T, _, rfl, upd_same, Reps.cons (q1.mono le (Nat.le_refl _)) (Reps.cons (q2.mono le (Nat.le_refl _)) Reps.nil)⟩
  · rename_i _ _ zz
    clear zz
    unfold srcZip at q1
    split at q1
    · rename_i xs ys
      obtain ⟨u, v, rfl, rx, ry⟩ := m1.rep.two
      obtain ⟨a, us, rfl, s1, r1⟩ := tup_run rx m1.rel
      obtain ⟨b, vs, rfl, s2, r2⟩ := tup_run ry m1.rel
      refine ⟨a, b, us, vs, rfl, .inr (.inl ⟨.inl (.inl s1), .inl (.inl s2), q1.go m1.rel ⟨_, _, walkZT, fun g' h' H' l hn rh' _ => ?_, fun i z g' h' H' H2 l hn rh' _ hz u' hu => ?_⟩⟩)⟩
      · obtain ⟨a', us', e, s', r'⟩ := tup_run (rx.mono0 l hn) rh'
        cases e
        obtain ⟨b', vs', e, s2', r2'⟩ := tup_run (ry.mono0 l hn) rh'
        cases e
        exact ⟨us', vs', .inl (.inl s'), .inl (.inl s2'), by rw [r'.length, r2'.length, zipL_length]⟩
      · obtain ⟨T, x, y, rfl, nT, rfl, hu1, hu2⟩ := hu
        obtain ⟨zx, zy, e1, e2, rfl⟩ := zipL_get hz
        obtain ⟨a', us', e, s', r'⟩ := tup_run (rx.mono0 l hn) rh'
        cases e
        obtain ⟨b', vs', e, s2', r2'⟩ := tup_run (ry.mono0 l hn) rh'
        cases e
        obtain ⟨w1, f1, q1⟩ := r'.get e1
        obtain ⟨w2, f2, q2⟩ := r2'.get e2
        have z1 := hu1 us' (.inl (.inl s'))
        have z2 := hu2 vs' (.inl (.inl s2'))
        rw [f1] at z1; cases z1
        rw [f2] at z2; cases z2
        obtain ⟨le, rh2⟩ := RelH.frz (o := .tup [x, y]) rh' nT
        refine ⟨_, le, rh2, ?_⟩
        simp only [Rep]
        exact ⟨T, _, rfl, upd_same, Reps.cons (q1.mono le (Nat.le_refl _)) (Reps.cons (q2.mono le (Nat.le_refl _)) Reps.nil)⟩
    · rename_i x0 y0 _
      obtain ⟨u, v, rfl, rx, ry⟩ := m1.rep.two
      split at q1
      · rename_i xs ys ex ey
        obtain ⟨a, us, rfl, s1, r1⟩ := lstOf_run rx m1.rel ex
        obtain ⟨b, vs, rfl, s2, r2⟩ := lstOf_run ry m1.rel ey
        have now : ∀ {g' h' H'}, g1.le0 h1.length g' → h1.length ≤ h'.length → RelH (kx c X) g' h' H' → ckOk (ckOf x0 h1 ++ ckOf y0 h1) h' → ∃ us' vs', SqL X.K H' a us' ∧ SqL X.K H' b vs' ∧ Reps (kx c X) g' h'.length xs us' ∧ Reps (kx c X) g' h'.length ys vs' := fun {g' h' H'} l hn rh' ck => by
          obtain ⟨c1, c2⟩ := ckOk_app.mp ck
          obtain ⟨e1, rx'⟩ := keptL rx m1.rel ex l hn rh' c1
          obtain ⟨e2, ry'⟩ := keptL ry m1.rel ey l hn rh' c2
          obtain ⟨a', us', e, s', r'⟩ := lstOf_run rx' rh' e1
          cases e
          obtain ⟨b', vs', e, s2', r2'⟩ := lstOf_run ry' rh' e2
          cases e
          exact ⟨us', vs', s', s2', r', r2'⟩
        refine ⟨a, b, us, vs, rfl, .inl ⟨s1, s2, q1.go m1.rel ⟨_, _, walkZ, fun g' h' H' l hn rh' ck => ?_, fun i z g' h' H' H2 l hn rh' ck hz u' hu => ?_⟩⟩⟩
        · obtain ⟨us', vs', s', s2', r', r2'⟩ := now l hn rh' ck
          exact ⟨us', vs', s', s2', by rw [r'.length, r2'.length, zipL_length]⟩
        · obtain ⟨T, x, y, rfl, nT, rfl, hu1, hu2⟩ := hu
          obtain ⟨zx, zy, e1, e2, rfl⟩ := zipL_get hz
          obtain ⟨us', vs', s', s2', r', r2'⟩ := now l hn rh' ck
          obtain ⟨w1, f1, q1⟩ := r'.get e1
          obtain ⟨w2, f2, q2⟩ := r2'.get e2
          have z1 := hu1 us' s'
          have z2 := hu2 vs' s2'
          rw [f1] at z1; cases z1
          rw [f2] at z2; cases z2
          obtain ⟨le, rh2⟩ := RelH.frz (o := .tup [x, y]) rh' nT
          refine ⟨_, le, rh2, ?_⟩
          simp only [Rep]
          exact ⟨T, _, rfl, upd_same, Reps.cons (q1.mono le (Nat.le_refl _)) (Reps.cons (q2.mono le (Nat.le_refl _)) Reps.nil)⟩
      · exact q1.elim
    · exact q1.elim
end
end Pm
namespace Pm
open PySem PySem.Spec L2 PyProof.Rows
/-! ### truth of a row -/
def truB (x : PV) (h : VH) : Res Bool := match seqOf x h with
  | some xs => .ok (!xs.isEmpty) h
  | none => asB x h
def tTru (m : EM) : TM := fun σ h => (m σ h).bind truB
theorem tTru_def (m : EM) (σ : LS) (h : VH) : tTru m σ h = (m σ h).bind truB := rfl
theorem truB_tup (xs : List PV) (h : VH) : truB (.tup xs) h = .ok (!xs.isEmpty) h := rfl
section
variable {c : Ck} {X : Cx} {W : WX} {e : Expr} {m : EM}
theorem Reps.empty {K : Kc} {g : Gh} {n : Nat} {xs : List PV} {us : List V} (r : Reps K g n xs us) : us.isEmpty = xs.isEmpty := by
  have := r.length
  cases xs <;> cases us <;> simp_all
theorem ST.tru (hs : SE c X W e m) (he : ∀ whole, isTrue e X.env whole = (do let v ← whole; standAt e.pos; holding [v] (truthy v)) := by intro _; rfl) : ST c X W e (tTru m) := by
  obtain ⟨t, pe, s⟩ := hs
  refine ⟨_, pt_truth pe he, fun g σ h τ H Q rs rh p => ?_⟩
  refine s g σ h τ H _ rs rh ((Post.bind p).imp (fun u H1 ⟨g1, x, h1, m1, p1⟩ => ?_) fun _ _ _ z => z)
  unfold truB at p1
  split at p1
  · rename_i xs e1
    obtain ⟨a, us, rfl, sq, r⟩ := seqOf_run m1.rep m1.rel e1
    refine ⟨!us.isEmpty, ?_, ?_⟩
    · rcases sq with sq | sq
      · exact .inl ⟨us, sq, rfl⟩
      · exact .inr (.inl ⟨us, sq, rfl⟩)
    · rw [r.empty]
      exact p1 g1 _ H1 (Gh.le.refl _ _) (Nat.le_refl _) m1.rel rfl
  · obtain ⟨b, rfl, q⟩ := asB_run m1.rep m1.rel p1
    exact ⟨b, rfl, q⟩
end
end Pm
namespace Pm
open PySem PySem.Spec L2 PyProof.Rows
/-! ### sorting lists of rows of numbers, any number of them -/
def lexL : List Int → List Int → Bool
  | _, [] => false
  | [], _ :: _ => true
  | x :: xs, y :: ys => if x = y then lexL xs ys else decide (x < y)
theorem lexL_irr : ∀ x, lexL x x = false
  | [] => rfl
  | x :: xs => by rw [lexL, if_pos rfl]; exact lexL_irr xs
theorem lexL_asym : ∀ x y, lexL x y = true → lexL y x = false
  | _, [], h => by simp [lexL] at h
  | [], _ :: _, _ => rfl
  | x :: xs, y :: ys, h => by
    rw [lexL] at h ⊢
    by_cases e : x = y
    · rw [if_pos e] at h; rw [if_pos e.symm]; exact lexL_asym xs ys h
    · rw [if_neg e, decide_eq_true_eq] at h
      rw [if_neg (fun z => e z.symm), decide_eq_false_iff_not]; omega
theorem lexL_tr : ∀ x y z, lexL y x = false → lexL z y = false → lexL z x = false
  | [], _, z, _, _ => by cases z <;> rfl
  | a :: x, [], z, h, _ => by simp [lexL] at h
  | a :: x, b :: y, [], _, h => by simp [lexL] at h
  | a :: x, b :: y, c :: z, h1, h2 => by
    rw [lexL] at h1 h2 ⊢
    by_cases e1 : b = a
    · rw [if_pos e1] at h1
      by_cases e2 : c = b
      · rw [if_pos e2] at h2; rw [if_pos (e2.trans e1)]; exact lexL_tr x y z h1 h2
      · rw [if_neg e2, decide_eq_false_iff_not] at h2
        rw [if_neg (fun w => e2 (w.trans e1.symm)), decide_eq_false_iff_not]; omega
    · rw [if_neg e1, decide_eq_false_iff_not] at h1
      by_cases e2 : c = b
      · rw [if_neg (fun w => e1 (e2.symm.trans w)), decide_eq_false_iff_not]; omega
      · rw [if_neg e2, decide_eq_false_iff_not] at h2
        by_cases e3 : c = a
        · omega
        · rw [if_neg e3, decide_eq_false_iff_not]; omega
theorem lexL_anti : ∀ x y, lexL x y = false → lexL y x = false → x = y
  | [], [], _, _ => rfl
  | [], _ :: _, h, _ => by simp [lexL] at h
  | _ :: _, [], _, h => by simp [lexL] at h
  | x :: xs, y :: ys, h1, h2 => by
    rw [lexL] at h1 h2
    by_cases e : x = y
    · rw [if_pos e] at h1; rw [if_pos e.symm] at h2
      rw [e, lexL_anti xs ys h1 h2]
    · rw [if_neg e, decide_eq_false_iff_not] at h1
      rw [if_neg (fun z => e z.symm), decide_eq_false_iff_not] at h2
      omega
/-- the same rows, rising -/
def sortR (nss : List (List Int)) : List (List Int) := nss.mergeSort fun a b => !lexL b a
theorem sortR_perm (nss : List (List Int)) : (sortR nss).Perm nss := List.mergeSort_perm _ _
theorem sortR_le (nss : List (List Int)) : (sortR nss).Pairwise fun a b => lexL b a = false := by
  have := List.pairwise_mergeSort (le := fun a b : List Int => !lexL b a) (fun a b c h1 h2 => by
    simp only [Bool.not_eq_true'] at *; exact lexL_tr a b c h1 h2) (fun a b => by
    cases h : lexL b a with
    | false => simp
    | true => simp [lexL_asym _ _ h]) nss
  exact this.imp fun h => by simpa using h
theorem sortR_uniq {a b : List (List Int)} (hp : a.Perm b) (ha : a.Pairwise fun x y => lexL y x = false) (hb : b.Pairwise fun x y => lexL y x = false) : a = b :=
  List.Perm.eq_of_pairwise (le := fun x y => lexL y x = false) (fun x y _ _ h1 h2 => lexL_anti x y h2 h1) ha hb hp
section
open SrtO
theorem swo_rows (k : Value → List Int) : Swo fun v u => lexL (k v) (k u) := ⟨fun x y h => lexL_asym _ _ h, fun x y z h1 h2 => lexL_tr _ _ _ h1 h2⟩
variable {prog : Program} {w : World} {A : Around} {s : Shared}
theorem lexR_ints {b : Bool} {xs ys : List Value} {ns ms : List Int} {Q : Bool → Shared → Prop} (i : Nat) (hx : IntsAre xs ns) (hy : IntsAre ys ms) (hl : ns.length = ms.length)
    (h : Q (lexL ns ms) s) : PySem.W.KatLex prog w A b false Q (xs.zip ys) i s := by
  induction hx generalizing ys ms i with
  | nil =>
    cases hy with
    | nil => exact PySem.W.kat_nil h
    | cons q u hy => simp at hl
  | @cons p t xs ns hx ih =>
    cases hy with
    | nil => simp at hl
    | @cons q u ys ms hy =>
      have hl' : ns.length = ms.length := by simpa using hl
      show PySem.W.KatLex prog w A b false Q ((Value.int p t, Value.int q u) :: xs.zip ys) i s
      refine PySem.W.kat_cons (wpAny_eqBool_int ?_)
      by_cases e : p = q
      · subst e
        rw [beq_self_eq_true]
        have d : lexL (p :: ns) (p :: ms) = lexL ns ms := by rw [lexL, if_pos rfl]
        rw [d] at h
        refine PySem.W.kat_yes ?_
        first
          | exact ih (i + 1) hy hl' h
          | exact ih _ _ (i + 1) hy hl' h
      · rw [show (p == q) = false from beq_eq_false_iff_ne.mpr e]
        have d : lexL (p :: ns) (q :: ms) = decide (p < q) := by rw [lexL, if_neg e]
        rw [d] at h
        exact PySem.W.kat_no (TS.oneLt_ints _ h)
def TupsD (h : Heap) (d : Nat) (k : Value → List Int) (vs : List Value) : Prop := ∀ v ∈ vs, TS.TupInts h v (k v) ∧ (k v).length = d
theorem rows_firsts {h : Heap} {d : Nat} {k : Value → List Int} (hd : 1 ≤ d) : ∀ vs : List Value, TupsD h d k vs → ∃ fs, PySem.W.KatTups h vs fs ∧ fs.length = vs.length ∧ ∀ f, f ∈ fs → ∃ n t, f = Value.int n t
  | [], _ => ⟨[], PySem.W.KatTups.nil, rfl, fun f hf => by simp at hf⟩
  | v :: vs, x => by
    obtain ⟨fs, kk, hl, hi⟩ := rows_firsts hd vs fun u hu => x u (List.mem_cons_of_mem _ hu)
    obtain ⟨⟨a, xs, ea, ⟨o, ho, hc, n, hdt⟩, i⟩, hn⟩ := x v List.mem_cons_self
    generalize k v = ns at i hn
    subst ea
    obtain ⟨y, ys, e⟩ : ∃ y ys, xs.toList = y :: ys := by
      cases q : xs.toList with
      | nil =>
        rw [q] at i
        have l := i.length
        rw [List.length_nil, hn] at l
        omega
      | cons y ys => exact ⟨y, ys, rfl⟩
    obtain ⟨m, t, hy⟩ := i.all y (by rw [e]; exact List.mem_cons_self ..)
    refine ⟨y :: fs, PySem.W.KatTups.cons ho hc hdt ?_ kk, by simp [hl], ?_⟩
    · have z := congrArg (fun l : List Value => l[0]?) e
      simpa using z
    · intro f hf
      rcases List.mem_cons.mp hf with rfl | hf
      · exact ⟨m, t, hy⟩
      · exact hi f hf
theorem rows_cmp {vs : List Value} {d : Nat} {k : Value → List Int} (x : TupsD s.heap d k vs) : Cmp prog w A s (tuples' true) (fun p => p.1 ∈ vs) (lt2 fun v u => lexL (k v) (k u)) := by
  intro p q hp hq
  obtain ⟨tp, lp⟩ := x _ hp
  obtain ⟨tq, lq⟩ := x _ hq
  show wpAny (model prog w) A (keyLt' (tuples' true) p.1 q.1) (fun r s' => s' = s ∧ r = lexL (k p.1) (k q.1)) (fun _ _ => False) s
  generalize k p.1 = ns at tp lp ⊢
  generalize k q.1 = ms at tq lq ⊢
  obtain ⟨a, xs, e1, ⟨o, ho, hc, n, hdt⟩, i⟩ := tp
  obtain ⟨a', ys, e2, ⟨o', ho', hc', n', hdt'⟩, i'⟩ := tq
  rw [e1, e2]
  refine PySem.W.kat_lt ho hdt ho' hdt' ?_
  have sz : decide (xs.size < ys.size) = false := by
    have l1 := i.length
    have l2 := i'.length
    rw [Array.length_toList] at l1 l2
    exact decide_eq_false (by omega)
  rw [sz]
  exact lexR_ints 0 i i' (by omega) ⟨rfl, rfl⟩
theorem rows_sortable {a : Addr} {vs : List Value} {d : Nat} {k : Value → List Int} (hd : 1 ≤ d) (h0 : 0 < vs.length) (x : TupsD s.heap d k vs) (ha : ∀ o, s.heap.get? a = some o → o.cls ≠ .type "tuple") : SortableO prog w A s a vs fun v u => lexL (k v) (k u) := by
  intro h' keep
  have x' : TupsD h' d k vs := fun v hm => ⟨(x v hm).1.keeps fun b o e c => keep b o (fun z => by subst z; exact ha o e c) e, (x v hm).2⟩
  obtain ⟨fs, h1, h2, h3⟩ := rows_firsts hd vs x'
  refine ⟨tuples' true, fun Q E hq => ?_, rows_cmp x'⟩
  refine PySem.W.kat_kind (T := .type "int") h1 (by omega) (fun f hm => ?_) (by rfl) ?_
  · obtain ⟨n, t, rfl⟩ := h3 f hm
    exact PySem.W.Looks.of_pure rfl
  · have e : (Value.type "int" != Value.type "tuple") = true := by first | decide +kernel | rfl | decide
    rw [e]
    exact hq
theorem sorted_rows {l : Addr} {vs : List Value} {d : Nat} {k : Value → List Int} {Q : Value → Shared → Prop} {E : Value → Shared → Prop} (hd : 1 ≤ d) (hl : s.heap.IsList l vs.toArray) (hz : vs.length ≤ sizeLine) (x : TupsD s.heap d k vs)
    (h : ∀ out : List Value, Srtd (fun v u => lexL (k v) (k u)) out → Stb (fun v u => lexL (k v) (k u)) out vs → Q (.ref (s.heap.objs.size + 1)) { s with heap := sortedAll s.heap vs out.toArray }) :
    wpAny (model prog w) A (call (.builtin "sorted") [.ref l]) Q E s := by
  refine sorted_ord (swo_rows k) hl hz (fun h2 h₁ a ha kk => ?_) h
  refine rows_sortable (s := { s with heap := h₁ }) hd (by omega) (fun v hm => ⟨(x v hm).1.keeps fun b o e _ => (kk b o e).2, (x v hm).2⟩) fun o e => ?_
  have e' : some o = some (seqObj "list" vs.toArray 0) := e.symm.trans ha
  cases e'
  intro c
  exact absurd (Value.type.inj c) (by decide)
end
end Pm
namespace Pm
open PySem PySem.Spec L2 PyProof.Rows
/-! ### sorted, of numbers or of rows of numbers -/
section
variable {X : Cx}
def rSortR (K : PySem.W.Frag) : List V → Hp → VK → Prop := fun vs H Q => ∃ (a : Addr) (xs : List V) (d : Nat), vs = [V.ref a] ∧ SqL K H a xs ∧ 1 ≤ d ∧ (∀ x ∈ xs, ∃ ns, TupI K H x ns ∧ ns.length = d) ∧
  ∀ (ys : List V) (p : Addr), ys.Perm xs → ys.Pairwise (fun x y => ∀ n m, TupI K H x n → TupI K H y m → lexL m n = false) → H p = none → Q (.ref p) (upd H p (.lst ys))
theorem cr_sortR : CallR X (.builtin "sorted") (rSortR X.K) := by
  intro pins s σ H vs us Q I r h
  obtain ⟨a, xs, d, rfl, hs, hd, hx, q⟩ := h
  obtain ⟨its, rv, hl, hz⟩ := I.list hs
  rw [Vals.ref1 r]
  obtain ⟨e1, e2⟩ := bkV_refs rv fun x m => by
    obtain ⟨ns, ⟨t, e, _⟩, _⟩ := hx x m
    exact ⟨t, e⟩
  have tk : ∀ {v : Value} {ns : List Int}, TS.TupInts s.heap v ns → TS.intsOf s.heap v = ns := fun t => t.ints
  refine sorted_rows (d := d) (k := TS.intsOf s.heap) hd hl.isList (by rw [← rv.length]; exact hz) (fun v hv => ?_) fun out h1 h2 => ?_
  · obtain ⟨t, rfl⟩ := e2 v hv
    have hm : V.ref t ∈ xs := by
      rw [e1]
      exact List.mem_map.mpr ⟨_, hv, rfl⟩
    obtain ⟨ns, ⟨t', e, ht⟩, hn⟩ := hx _ hm
    cases e
    have tr := tupI_raw I ht
    rw [tk tr]
    exact ⟨tr, hn⟩
  · obtain ⟨ep, he'⟩ := PyProof.Rows.sortedAll_at s.heap its out.toArray
    have h3 : ∀ u ∈ out, ∃ a, u = Value.ref a := fun u hu => e2 u (h2.perm.mem_iff.mp hu)
    have hp : (out.map bkV).Perm xs := by
      rw [e1]
      exact h2.perm.map bkV
    have hlen : (out.map bkV).length ≤ sizeLine := by
      rw [hp.length_eq]
      exact hz
    refine ⟨.ref _, upd H (s.heap.objs.size + 1) (.lst (out.map bkV)), I.laid (t' := s.toks) (fun _ _ => PyProof.Rows.sortedAll_old) (Nat.le_succ _) ⟨hlen, out, ep, bkV_vals h3, he'⟩, rfl, q _ _ hp ?_ (I.hok.fresh (Nat.le_succ _))⟩
    rw [List.pairwise_map]
    refine List.Pairwise.imp (fun {u v} huv n m hn hm => ?_) h1
    obtain ⟨t, et, ht⟩ := hn
    obtain ⟨t', et', ht'⟩ := hm
    have eu := bkV_ref et
    have ev := bkV_ref et'
    have i1 : TS.intsOf s.heap u = n := by rw [eu]; exact tk (tupI_raw I ht)
    have i2 : TS.intsOf s.heap v = m := by rw [ev]; exact tk (tupI_raw I ht')
    rw [← i1, ← i2]
    exact huv
def rSortAny (K : PySem.W.Frag) : List V → Hp → VK → Prop := fun vs H Q => rSortedI K vs H Q ∨ rSortR K vs H Q
theorem cr_sortAny : CallR X (.builtin "sorted") (rSortAny X.K) := fun pins s σ H vs us Q I r h => h.elim (cr_sortedI pins s σ H vs us Q I r) (cr_sortR pins s σ H vs us Q I r)
end
def rowV (ns : List Int) : PV := .tup (ns.map PV.int)
def rowsOf : List PV → Option (List (List Int))
  | [] => some []
  | .tup ys :: r => match intsOf ys, rowsOf r with
    | some n, some k => some (n :: k)
    | _, _ => none
  | _ :: _ => none
@[simp] theorem rowsOf_map : ∀ nss : List (List Int), rowsOf (nss.map rowV) = some nss
  | [] => rfl
  | n :: r => by
    show (match intsOf (n.map PV.int), rowsOf (r.map rowV) with
      | some a, some k => some (a :: k)
      | _, _ => none) = _
    rw [intsOf_map, rowsOf_map r]
theorem rowsOf_eq : ∀ {xs : List PV} {nss : List (List Int)}, rowsOf xs = some nss → xs = nss.map rowV
  | [], _, e => by cases e; rfl
  | x :: r, nss, e => by
    cases x <;> simp only [rowsOf, reduceCtorEq] at e
    rename_i ys
    cases e1 : intsOf ys with
    | none => rw [e1] at e; simp at e
    | some n =>
      cases e2 : rowsOf r with
      | none => rw [e1, e2] at e; simp at e
      | some k =>
        rw [e1, e2] at e
        cases e
        rw [List.map_cons, ← rowsOf_eq e2, intsOf_eq e1]; rfl
/-- rows of one length, at least one -/
def evenR (nss : List (List Int)) : Bool := match nss with
  | [] => false
  | n :: r => decide (1 ≤ n.length) && r.all fun m => decide (m.length = n.length)
theorem evenR_d {nss : List (List Int)} (h : evenR nss = true) : ∃ d, 1 ≤ d ∧ ∀ n ∈ nss, n.length = d := by
  cases nss with
  | nil => cases h
  | cons n r =>
    simp only [evenR, Bool.and_eq_true, decide_eq_true_eq, List.all_eq_true] at h
    exact ⟨n.length, h.1, fun m hm => (List.mem_cons.mp hm).elim (fun e => by rw [e]) (h.2 m)⟩
def sortedR (cell : Bool) (x : PV) (h : VH) : Res PV := match intsIn x h with
  | some ns => mkL cell ((sortI ns).map PV.int) h
  | none => match (lstOf x h).bind rowsOf with
    | some nss => if evenR nss = true then mkL cell ((sortR nss).map rowV) h else .bad
    | none => .bad
section
variable {K : Kc} {g : Gh} {n : Nat}
theorem reps_inv {x : PV} {xs : List PV} {us : List V} (r : Reps K g n (x :: xs) us) : ∃ u vs, us = u :: vs ∧ Rep K g n x u ∧ Reps K g n xs vs := by
  simp only [Reps] at r
  obtain ⟨u, vs, e, a, b⟩ := r
  exact ⟨u, vs, e, a, b⟩
theorem reps_perm {ys us : List V} (p : ys.Perm us) : ∀ nss : List (List Int), Reps K g n (nss.map rowV) us → ∃ mss : List (List Int), mss.Perm nss ∧ Reps K g n (mss.map rowV) ys := by
  induction p with
  | nil => exact fun nss r => ⟨nss, List.Perm.refl _, r⟩
  | @cons x l1 l2 p ih =>
    intro nss r
    cases nss with
    | nil => have := r.length; simp at this
    | cons a rest =>
      obtain ⟨u, vs, e, ra, rb⟩ := reps_inv r
      cases e
      obtain ⟨m, pm, rm⟩ := ih rest rb
      exact ⟨a :: m, pm.cons a, Reps.cons ra rm⟩
  | swap x y l =>
    intro nss r
    match nss, r with
    | [], r => have := r.length; simp at this
    | [a], r => have := r.length; simp at this
    | a :: b :: rest, r =>
      obtain ⟨u, vs, e, ra, rb⟩ := reps_inv r
      cases e
      obtain ⟨u, vs, e, rc, rd⟩ := reps_inv rb
      cases e
      exact ⟨b :: a :: rest, List.Perm.swap a b rest, Reps.cons rc (Reps.cons ra rd)⟩
  | trans p q ih1 ih2 =>
    intro nss r
    obtain ⟨m2, p2, r2⟩ := ih2 nss r
    obtain ⟨m1, p1, r1⟩ := ih1 m2 r2
    exact ⟨m1, p1.trans p2, r1⟩
end
theorem row_tupI {K : Kc} {g : Gh} {h : VH} {H : Hp} {ns : List Int} {u : V} (rx : Rep K g h.length (rowV ns) u) (rh : RelH K g h H) : TupI K.K H u ns := by
  obtain ⟨a, us, rfl, s, r⟩ := tup_run rx rh
  rw [Reps.ints_eq r] at s
  exact ⟨a, rfl, .inl (.inl s)⟩
theorem rows_pair {K : Kc} {g : Gh} {h : VH} {H : Hp} (rh : RelH K g h H) : ∀ {mss : List (List Int)} {ys : List V}, Reps K g h.length (mss.map rowV) ys → ys.Pairwise (fun x y => ∀ n m, TupI K.K H x n → TupI K.K H y m → lexL m n = false) → mss.Pairwise fun a b => lexL b a = false
  | [], _, _, _ => List.Pairwise.nil
  | a :: r, ys, rr, p => by
    obtain ⟨u, vs, rfl, ra, rb⟩ := reps_inv rr
    obtain ⟨p1, p2⟩ := List.pairwise_cons.mp p
    refine List.pairwise_cons.mpr ⟨fun b hb => ?_, rows_pair rh rb p2⟩
    obtain ⟨i, hi, rfl⟩ := List.getElem_of_mem hb
    obtain ⟨v, ev, rv⟩ := rb.get (i := i) (x := rowV r[i]) (by simp [hi])
    exact p1 v (List.mem_of_getElem? ev) _ _ (row_tupI ra rh) (row_tupI rv rh)
section
variable {c : Ck} {X : Cx}
theorem sortedRS (cell : Bool) : CallS c X (rSortAny X.K) (one (sortedR cell)) := fun g h H xs us Q E r rh p => by
  obtain ⟨x, u, rfl, rfl, rx, p⟩ := one_run r p
  unfold sortedR at p
  split at p
  · rename_i ns e
    obtain ⟨a, rfl, s⟩ := intsIn_run rx rh e
    refine .inl ⟨a, ns, rfl, s, fun ns' q hp hs nq => ?_⟩
    have : ns' = sortI ns := sorted_uniq (hp.trans (sortI_perm ns).symm) hs (sortI_le ns)
    rw [this]
    exact mkL_new rh (Reps.ints _) p q nq
  · split at p
    · rename_i nss e
      split at p
      · rename_i ev
        obtain ⟨xs, e1, e2⟩ := Option.bind_eq_some_iff.mp e
        obtain ⟨a, us, rfl, s, r⟩ := lstOf_run rx rh e1
        rw [rowsOf_eq e2] at r
        obtain ⟨d, hd, hl⟩ := evenR_d ev
        refine .inr ⟨a, us, d, rfl, s, hd, fun v hv => ?_, fun ys q hp hs nq => ?_⟩
        · obtain ⟨i, hi, rfl⟩ := List.getElem_of_mem hv
          obtain ⟨y, ey, ry⟩ := r.get' (List.getElem?_eq_getElem hi)
          rw [List.getElem?_map] at ey
          cases en : nss[i]? with
          | none => rw [en] at ey; cases ey
          | some ns =>
            rw [en] at ey
            cases ey
            exact ⟨ns, row_tupI ry rh, hl ns (List.mem_of_getElem? en)⟩
        · obtain ⟨mss, pm, rm⟩ := reps_perm hp nss r
          have : mss = sortR nss := sortR_uniq (pm.trans (sortR_perm nss).symm) (rows_pair rh rm hs) (sortR_le nss)
          rw [this] at rm
          exact mkL_new rh rm p q nq
      · exact p.elim
    · exact p.elim
end
theorem sortedR_ints {cell : Bool} {x : PV} {h : VH} {ns : List Int} (e : intsIn x h = some ns) : sortedR cell x h = mkL cell ((sortI ns).map PV.int) h := by simp [sortedR, e]
end Pm
namespace Pm
open PySem PySem.Spec L2 PyProof.Rows
/-! ### sorted of a tuple -/
section
open SrtO
variable {prog : Program} {w : World} {A : Around} {E : Value → Shared → Prop} {s : Shared}
theorem collect_tup {l : Addr} {vs : List Value} {Q : List Value → Shared → Prop} (hl : s.heap.IsTuple l vs.toArray)
    (h : Q vs { s with heap := (s.heap.push (seqObj "list" #[] 0)).update s.heap.objs.size (Obj.mapSeq (· ++ vs.toArray)) }) (hsz : vs.length ≤ sizeLine) :
    wpAny (model prog w) A (collect (.ref l)) Q E s := by
  obtain ⟨o, ho, hc, n, hd⟩ := id hl
  unfold collect
  refine wpAny_bind (wpAny_runValue (codeAny_builtin entry_proto_collect' ?_))
  show wpAny _ _ (do again (.builtin "list.__iadd__" ⟨[← newList [], .ref l], []⟩)) _ _ s
  refine wpAny_bind (wpAny_newList (wpAny_pure ⟨Code.quiet_builtin _ (by decide +kernel), codeAny_builtin entry_list_iadd' ?_⟩))
  show wpAny _ _ (Builtin.List.listExtendWith (.ref s.heap.objs.size) (.ref l) (.ref s.heap.objs.size)) _ _ { s with heap := s.heap.push (seqObj "list" #[] 0) }
  unfold Builtin.List.listExtendWith
  have ho' : (s.heap.push (seqObj "list" #[] 0)).get? l = some o := Heap.get?_push_of_some _ ho
  refine wpAny_bind (wpAny_typeOf (T := "tuple") ⟨o, ho', hc⟩ ?_)
  have ht : (Value.type "tuple" == Value.type "tuple") = true := by rfl
  rw [if_pos (by rw [ht]; simp)]
  refine wpAny_bind (listItems_at ho' hd ?_)
  refine wpAny_bind (listItems_at (xs := #[]) (n := 0) (Heap.get?_push_size _ rfl) rfl ?_)
  rw [if_neg (by simp)]
  refine wpAny_bind (listUpdate_at (xs := #[]) (n := 0) (Heap.get?_push_size _ rfl) rfl ?_ (Nat.zero_le _) (by show (#[] ++ vs.toArray).size ≤ sizeLine + 1; simp only [Array.size_append, List.size_toArray, List.length_nil]; omega))
  refine wpAny_pure ?_
  show wpAny (model prog w) A (do
      let o ← load s.heap.objs.size
      match o.data with
      | .seq xs _ => pure xs.toList
      | _ => unsupported "internal:collect") Q E { s with heap := (s.heap.push (seqObj "list" #[] 0)).update s.heap.objs.size (Obj.mapSeq (· ++ vs.toArray)) }
  refine wpAny_bind (wpAny_load (get?_update_seq (Heap.get?_push_size _ rfl) _) ?_)
  show wpAny _ _ (pure ((#[] : Array Value) ++ vs.toArray).toList) Q E _
  rw [show ((#[] : Array Value) ++ vs.toArray).toList = vs by simp]
  exact wpAny_pure h
theorem sorted_ordT {l : Addr} {vs : List Value} {ltv : Value → Value → Bool} {Q : Value → Shared → Prop} (O : Swo ltv) (hl : s.heap.IsTuple l vs.toArray) (hz : vs.length ≤ sizeLine)
    (hS : 2 ≤ vs.length → ∀ (h₁ : Heap) (a : Addr), h₁.get? a = some (seqObj "list" vs.toArray 0) → (∀ b o, s.heap.get? b = some o → b ≠ a ∧ h₁.get? b = some o) → SortableO prog w A.in1.in1 { s with heap := h₁ } a vs ltv)
    (h : ∀ out : List Value, Srtd ltv out → Stb ltv out vs → Q (.ref (s.heap.objs.size + 1)) { s with heap := sortedAll s.heap vs out.toArray }) :
    wpAny (model prog w) A (call (.builtin "sorted") [.ref l]) Q E s := by
  refine Calls.call_function_entry kind_sorted plain_sorted entry_sorted (args_sorted1 _) ?_
  unfold Builtin.«sorted»
  refine wpAny_bind (m := checkCount "sorted" 1 1 _) (wpAny_pure ?_)
  refine wpAny_bind (collect_tup hl ?_ hz)
  refine wpAny_bind (wpAny_newList ?_ hz)
  have hsz : ((s.heap.push (seqObj "list" #[] 0)).update s.heap.objs.size (Obj.mapSeq (· ++ vs.toArray))).objs.size = s.heap.objs.size + 1 := by
    rw [Heap.size_update, size_push']
  have hoL : (((s.heap.push (seqObj "list" #[] 0)).update s.heap.objs.size (Obj.mapSeq (· ++ vs.toArray))).push (seqObj "list" vs.toArray 0)).get? (s.heap.objs.size + 1) = some (seqObj "list" vs.toArray 0) := by
    rw [← hsz]; exact Heap.get?_push_size _ rfl
  have keep : ∀ b o, s.heap.get? b = some o → b ≠ s.heap.objs.size + 1 ∧ (((s.heap.push (seqObj "list" #[] 0)).update s.heap.objs.size (Obj.mapSeq (· ++ vs.toArray))).push (seqObj "list" vs.toArray 0)).get? b = some o := fun b o q => by
    have hlt : b < s.heap.objs.size := Heap.lt_size q
    refine ⟨Nat.ne_of_lt (Nat.lt_succ_of_lt hlt), Heap.get?_push_of_some _ ?_⟩
    rw [Heap.get?_update_ne _ _ _ _ (Nat.ne_of_lt hlt)]
    exact Heap.get?_push_of_some _ q
  show wpAny _ _ _ _ _ { s with heap := ((s.heap.push (seqObj "list" #[] 0)).update s.heap.objs.size (Obj.mapSeq (· ++ vs.toArray))).push (seqObj "list" vs.toArray 0) }
  rw [hsz]
  refine wpAny_bind (wpAny_holding (wpAny_call_entry slot_list_sort ⟨_, hoL, rfl⟩ entry_list_sort (list_sort_ord O hoL hz (fun h2 => hS h2 _ _ hoL keep) fun out hs hb => ⟨_, rfl, ?_⟩) (args_list_sort _)))
  exact wpAny_pure ⟨_, rfl, h out hs hb⟩
end
section
variable {X : Cx}
def rSortedIT (K : PySem.W.Frag) : List V → Hp → VK → Prop := fun vs H Q => ∃ (a : Addr) (ns : List Int), vs = [V.ref a] ∧ SqT K H a (ns.map V.int) ∧ ∀ (ns' : List Int) (p : Addr), ns'.Perm ns → ns'.Pairwise (· ≤ ·) → H p = none → Q (.ref p) (upd H p (.lst (ns'.map V.int)))
theorem cr_sortedIT : CallR X (.builtin "sorted") (rSortedIT X.K) := by
  intro pins s σ H vs us Q I r h
  obtain ⟨a, ns, rfl, hs, q⟩ := h
  obtain ⟨its, rv, hl, hz⟩ := I.tuple hs
  rw [Vals.ref1 r]
  have hi := rv.ints
  have hz' : its.length ≤ sizeLine := by rw [← rv.length]; exact hz
  refine sorted_ordT SrtO.swo_int (show s.heap.IsTuple a its.toArray from hl) hz' (fun h2 h₁ a' _ _ => SrtO.ints_sortable hi h2) fun out h1 h2 => ?_
  obtain ⟨k1, k2, k3⟩ := SrtO.ints_out hi h1 h2
  obtain ⟨ep, he'⟩ := PyProof.Rows.sortedAll_at s.heap its out.toArray
  have hlen : ((out.map SrtO.iv).map V.int).length ≤ sizeLine := by
    rw [List.length_map, k2.length_eq]
    rw [List.length_map] at hz
    exact hz
  exact ⟨.ref _, upd H (s.heap.objs.size + 1) (.lst ((out.map SrtO.iv).map V.int)), I.laid (t' := s.toks) (fun _ _ => PyProof.Rows.sortedAll_old) (Nat.le_succ _) ⟨hlen, out, ep, vals_of_ints k1, he'⟩, rfl, q _ _ k2 k3 (I.hok.fresh (Nat.le_succ _))⟩
end
end Pm
namespace Pm
open PySem PySem.Spec L2 PyProof.Rows
/-! ### sorted: a list or a tuple of numbers, a list of rows -/
section
variable {c : Ck} {X : Cx}
def rSortX (K : PySem.W.Frag) : List V → Hp → VK → Prop := fun vs H Q => rSortAny K vs H Q ∨ rSortedIT K vs H Q
theorem cr_sortX : CallR X (.builtin "sorted") (rSortX X.K) := fun pins s σ H vs us Q I r h => h.elim (cr_sortAny pins s σ H vs us Q I r) (cr_sortedIT pins s σ H vs us Q I r)
def sortedX (cell : Bool) (x : PV) (h : VH) : Res PV := match x with
  | .tup xs => match intsOf xs with
    | some ns => mkL cell ((sortI ns).map PV.int) h
    | none => .bad
  | x => sortedR cell x h
theorem sortedXS (cell : Bool) : CallS c X (rSortX X.K) (one (sortedX cell)) := fun g h H xs us Q E r rh p => by
  obtain ⟨x, u, rfl, rfl, rx, p'⟩ := one_run r p
  unfold sortedX at p'
  split at p'
  · rename_i xs
    split at p'
    · rename_i ns e
      obtain ⟨a, us, rfl, s, r'⟩ := tup_run rx rh
      rw [intsOf_eq e] at r'
      rw [Reps.ints_eq r'] at s
      refine .inr ⟨a, ns, rfl, .inl (.inl s), fun ns' q hp hs nq => ?_⟩
      have : ns' = sortI ns := sorted_uniq (hp.trans (sortI_perm ns).symm) hs (sortI_le ns)
      rw [this]
      exact mkL_new rh (Reps.ints _) p' q nq
    · exact p'.elim
  · exact .inl (sortedRS cell g h H [x] [u] Q E r rh p')
end
theorem sortedX_tup (cell : Bool) (ns : List Int) (h : VH) : sortedX cell (.tup (ns.map PV.int)) h = mkL cell ((sortI ns).map PV.int) h := by simp [sortedX]
theorem sortedX_rows {cell : Bool} {x : PV} {h : VH} {nss : List (List Int)} (e : lstOf x h = some (nss.map rowV)) (hx : ∀ xs, x ≠ .tup xs) (ev : evenR nss = true) : sortedX cell x h = mkL cell ((sortR nss).map rowV) h := by
  have i : intsIn x h = none := by
    unfold intsIn
    rw [e]
    cases nss with
    | nil => cases ev
    | cons n r => rfl
  have y : sortedX cell x h = sortedR cell x h := by
    cases x <;> first | rfl | exact absurd rfl (hx _)
  rw [y]
  unfold sortedR
  rw [i, e]
  simp [ev]
theorem sortedX_nil {cell : Bool} {x : PV} {h : VH} (e : lstOf x h = some []) (hx : ∀ xs, x ≠ .tup xs) : sortedX cell x h = mkL cell [] h := by
  have y : sortedX cell x h = sortedR cell x h := by
    cases x <;> first | rfl | exact absurd rfl (hx _)
  rw [y, sortedR_ints (ns := []) (by unfold intsIn; rw [e]; rfl)]
  simp [sortI]
end Pm
namespace Pm
open PySem PySem.Spec L2 PyProof.Rows
/-! ### a list unpacked -/
def gLstM (n : Nat) (ms : GMs) : GM := fun v σ h => match v with
  | .lst xs => if xs.length = n then ms xs σ h else .bad
  | _ => .bad
theorem gLstM_lst (n : Nat) (ms : GMs) (xs : List PV) (σ : LS) (h : VH) : gLstM n ms (.lst xs) σ h = if xs.length = n then ms xs σ h else .bad := rfl
section
variable {c : Ck} {X : Cx} {pos : Pos}
theorem SG.lst {es : List Expr} {k : Nat} {ms : GMs} {n : Nat} (hc : X.calm = true) (hs : SGs c X es ms) (hn : (assignEach es X.env).length = n := by rfl) (hst : (assignEach es X.env).findIdx? (·.1) = none := by rfl) : SG c X (.Tuple es k pos) (gLstM n ms) := by
  obtain ⟨t, p, s⟩ := hs
  refine ⟨_, pg_lst hc p hn hst, fun g σ h τ H v u N rs rh rv q => ?_⟩
  cases v with
  | lst xs =>
    obtain ⟨a, us, rfl, sq, rr⟩ := lstOf_run rv rh (lstOf_lst xs h)
    rw [gLstM_lst] at q
    split at q
    · rename_i e
      exact ⟨a, us, rfl, sq, rr.length.trans e, s g σ h τ H xs us N rs rh rr q⟩
    · exact q.elim
  | _ => exact q.elim
end
end Pm
namespace Pm
open PySem PySem.Spec L2 PyProof.Rows
/-! ### the text -/
def topS (i : Nat) : Stmt := PySem.Challenge.pw_sevenninths_k55_whole_one_curve.main.body.getD i (.Pass ⟨0, 0, 0, 0⟩)
abbrev s__law_take : Stmt := topS 36
theorem sc__law_take : FnScope ["_law_hand", "_law_many", "_law_at", "_law_draws_here"] ["_law_hand", "_law_many"] (defScope s__law_take) := ⟨rfl, rfl, rfl, by decide +kernel, rfl, by decide +kernel, by decide +kernel⟩
abbrev s__law_prime : Stmt := topS 37
theorem sc__law_prime : FnScope ["_law_hand", "_law_most", "_law_primes", "_law_p"] ["_law_hand", "_law_most"] (defScope s__law_prime) := ⟨rfl, rfl, rfl, by decide +kernel, rfl, by decide +kernel, by decide +kernel⟩
abbrev s__law_curve : Stmt := topS 39
theorem sc__law_curve : FnScope ["_law_hand", "_law_p", "_law_d", "_law_k"] ["_law_hand", "_law_p", "_law_d"] (defScope s__law_curve) := ⟨rfl, rfl, rfl, by decide +kernel, rfl, by decide +kernel, by decide +kernel⟩
abbrev s__law_turned : Stmt := topS 40
theorem sc__law_turned : FnScope ["_law_hand", "_law_p", "_law_f", "_law_many", "_law_k"] ["_law_hand", "_law_p", "_law_f", "_law_many"] (defScope s__law_turned) := ⟨rfl, rfl, rfl, by decide +kernel, rfl, by decide +kernel, by decide +kernel⟩
abbrev s__law_value : Stmt := topS 38
theorem sc__law_value : FnScope ["_law_p", "_law_curve_here", "_law_x", "_law_total", "_law_c"] ["_law_p", "_law_curve_here", "_law_x"] (defScope s__law_value) := ⟨rfl, rfl, rfl, by decide +kernel, rfl, by decide +kernel, by decide +kernel⟩
abbrev s__law_near : Stmt := topS 44
theorem sc__law_near : FnScope ["_law_p", "_law_d", "_law_f", "_law_curves", "_law_k", "_law_longer", "_law_one", "_law_c", "_law_found", "_law_curve_here", "_law_w", "_law_x"] ["_law_p", "_law_d", "_law_f"] (defScope s__law_near) := ⟨rfl, rfl, rfl, by decide +kernel, rfl, by decide +kernel, by decide +kernel⟩
abbrev s_is_integer : Stmt := topS 5
theorem sc_is_integer : FnScope ["value"] ["value"] (defScope s_is_integer) := ⟨rfl, rfl, rfl, by decide +kernel, rfl, by decide +kernel, by decide +kernel⟩
abbrev s_is_number : Stmt := topS 6
theorem sc_is_number : FnScope ["value"] ["value"] (defScope s_is_number) := ⟨rfl, rfl, rfl, by decide +kernel, rfl, by decide +kernel, by decide +kernel⟩
abbrev s_is_prime : Stmt := topS 14
theorem sc_is_prime : FnScope ["value", "most", "divisor"] ["value", "most"] (defScope s_is_prime) := ⟨rfl, rfl, rfl, by decide +kernel, rfl, by decide +kernel, by decide +kernel⟩
abbrev s_InvalidNumber_init : Stmt := inClass (topS 2) 0
theorem sc_InvalidNumber_init : FnScope ["self", "value"] ["self", "value"] (defScope s_InvalidNumber_init) := ⟨rfl, rfl, rfl, by decide +kernel, rfl, by decide +kernel, by decide +kernel⟩
abbrev s_check_prime : Stmt := topS 15
theorem sc_check_prime : FnScope ["p"] ["p"] (defScope s_check_prime) := ⟨rfl, rfl, rfl, by decide +kernel, rfl, by decide +kernel, by decide +kernel⟩
abbrev s_is_below : Stmt := topS 7
theorem sc_is_below : FnScope ["value", "bound"] ["value", "bound"] (defScope s_is_below) := ⟨rfl, rfl, rfl, by decide +kernel, rfl, by decide +kernel, by decide +kernel⟩
abbrev s_row_below : Stmt := topS 8
theorem sc_row_below : FnScope ["value", "length", "bound", "one"] ["value", "length", "bound"] (defScope s_row_below) := ⟨rfl, rfl, rfl, by decide +kernel, rfl, by decide +kernel, by decide +kernel⟩
abbrev s_InvalidMap_init : Stmt := inClass (topS 3) 0
theorem sc_InvalidMap_init : FnScope ["self", "value"] ["self", "value"] (defScope s_InvalidMap_init) := ⟨rfl, rfl, rfl, by decide +kernel, rfl, by decide +kernel, by decide +kernel⟩
abbrev s_check_table : Stmt := topS 16
theorem sc_check_table : FnScope ["p", "f"] ["p", "f"] (defScope s_check_table) := ⟨rfl, rfl, rfl, by decide +kernel, rfl, by decide +kernel, by decide +kernel⟩
abbrev s_check_degree : Stmt := topS 17
theorem sc_check_degree : FnScope ["p", "d", "f"] ["p", "d", "f"] (defScope s_check_degree) := ⟨rfl, rfl, rfl, by decide +kernel, rfl, by decide +kernel, by decide +kernel⟩
abbrev s_times_less : Stmt := topS 26
theorem sc_times_less : FnScope ["p", "curve", "x", "longer", "place", "number"] ["p", "curve", "x"] (defScope s_times_less) := ⟨rfl, rfl, rfl, by decide +kernel, rfl, by decide +kernel, by decide +kernel⟩
abbrev s_inverse_of : Stmt := topS 25
theorem sc_inverse_of : FnScope ["p", "number", "other"] ["p", "number"] (defScope s_inverse_of) := ⟨rfl, rfl, rfl, by decide +kernel, rfl, by decide +kernel, by decide +kernel⟩
abbrev s_value_of : Stmt := topS 28
theorem sc_value_of : FnScope ["p", "curve", "x", "total", "number"] ["p", "curve", "x"] (defScope s_value_of) := ⟨rfl, rfl, rfl, by decide +kernel, rfl, by decide +kernel, by decide +kernel⟩
abbrev s_curve_through : Stmt := topS 27
theorem sc_curve_through : FnScope ["p", "values", "curve", "_", "product", "x", "value", "lack", "place", "number"] ["p", "values"] (defScope s_curve_through) := ⟨rfl, rfl, rfl, by decide +kernel, rfl, by decide +kernel, by decide +kernel⟩
abbrev s_ways_of : Stmt := topS 10
theorem sc_ways_of : FnScope ["many", "found", "_", "one", "other"] ["many"] (defScope s_ways_of) := ⟨rfl, rfl, rfl, by decide +kernel, rfl, by decide +kernel, by decide +kernel⟩
abbrev s_factors_of : Stmt := topS 18
theorem sc_factors_of : FnScope ["d", "i", "way"] ["d"] (defScope s_factors_of) := ⟨rfl, rfl, rfl, by decide +kernel, rfl, by decide +kernel, by decide +kernel⟩
abbrev s_step_sum : Stmt := topS 19
theorem sc_step_sum : FnScope ["p", "factors", "f", "x", "h", "i", "factor"] ["p", "factors", "f", "x", "h"] (defScope s_step_sum) := ⟨rfl, rfl, rfl, by decide +kernel, rfl, by decide +kernel, by decide +kernel⟩
abbrev s_step_votes : Stmt := topS 21
theorem sc_step_votes : FnScope ["p", "d", "f", "x", "factors", "counts", "_", "h"] ["p", "d", "f", "x"] (defScope s_step_votes) := ⟨rfl, rfl, rfl, by decide +kernel, rfl, by decide +kernel, by decide +kernel⟩
abbrev s_places_apart : Stmt := topS 29
theorem sc_places_apart : FnScope ["p", "curve", "f", "x"] ["p", "curve", "f"] (defScope s_places_apart) := ⟨rfl, rfl, rfl, by decide +kernel, rfl, by decide +kernel, by decide +kernel⟩
abbrev s_close_curve : Stmt := topS 30
theorem sc_close_curve : FnScope ["p", "d", "f", "values", "x", "votes", "value", "curve"] ["p", "d", "f"] (defScope s_close_curve) := ⟨rfl, rfl, rfl, by decide +kernel, rfl, by decide +kernel, by decide +kernel⟩
abbrev s__law_is_small : Stmt := topS 45
theorem sc__law_is_small : FnScope ["_law_hand", "_law_p", "_law_d", "_law_f", "_law_x", "_law_curve_here", "_law_found", "_law_due"] ["_law_hand"] (defScope s__law_is_small) := ⟨rfl, rfl, rfl, by decide +kernel, rfl, by decide +kernel, by decide +kernel⟩
abbrev s__law_draws : Stmt := topS 35
theorem sc__law_draws : FnScope ["_law_script", "_law_many", "_law_rests", "_law_cell", "_law_draws_here", "_law_k", "_law_at", "_law_mixed"] ["_law_script", "_law_many"] (defScope s__law_draws) := ⟨rfl, rfl, rfl, by decide +kernel, rfl, by decide +kernel, by decide +kernel⟩
abbrev s_broken_steps : Stmt := topS 20
theorem sc_broken_steps : FnScope ["p", "d", "f", "factors", "many", "x", "h"] ["p", "d", "f"] (defScope s_broken_steps) := ⟨rfl, rfl, rfl, by decide +kernel, rfl, by decide +kernel, by decide +kernel⟩
abbrev s_is_near : Stmt := topS 22
theorem sc_is_near : FnScope ["p", "d", "f"] ["p", "d", "f"] (defScope s_is_near) := ⟨rfl, rfl, rfl, by decide +kernel, rfl, by decide +kernel, by decide +kernel⟩
abbrev s_is_curve : Stmt := topS 31
theorem sc_is_curve : FnScope ["p", "value"] ["p", "value"] (defScope s_is_curve) := ⟨rfl, rfl, rfl, by decide +kernel, rfl, by decide +kernel, by decide +kernel⟩
abbrev s_value_at : Stmt := topS 32
theorem sc_value_at : FnScope ["p", "curve", "x"] ["p", "curve", "x"] (defScope s_value_at) := ⟨rfl, rfl, rfl, by decide +kernel, rfl, by decide +kernel, by decide +kernel⟩
abbrev s__law_steps : Stmt := topS 41
theorem sc__law_steps : FnScope ["_law_d", "_law_row", "_law_k", "_law_x", "_law_y"] ["_law_d"] (defScope s__law_steps) := ⟨rfl, rfl, rfl, by decide +kernel, rfl, by decide +kernel, by decide +kernel⟩
abbrev s__law_votes : Stmt := topS 43
theorem sc__law_votes : FnScope ["_law_p", "_law_d", "_law_f", "_law_x", "_law_row", "_law_found", "_law_v", "_law_h", "_law_i"] ["_law_p", "_law_d", "_law_f", "_law_x"] (defScope s__law_votes) := ⟨rfl, rfl, rfl, by decide +kernel, rfl, by decide +kernel, by decide +kernel⟩
abbrev s_wrong_on : Stmt := topS 33
theorem sc_wrong_on : FnScope ["p", "curve", "f"] ["p", "curve", "f"] (defScope s_wrong_on) := ⟨rfl, rfl, rfl, by decide +kernel, rfl, by decide +kernel, by decide +kernel⟩
abbrev s__law_broken : Stmt := topS 42
theorem sc__law_broken : FnScope ["_law_p", "_law_d", "_law_f", "_law_total", "_law_row", "_law_x", "_law_h", "_law_one", "_law_i"] ["_law_p", "_law_d", "_law_f"] (defScope s__law_broken) := ⟨rfl, rfl, rfl, by decide +kernel, rfl, by decide +kernel, by decide +kernel⟩
abbrev s_law : Stmt := topS 46
theorem sc_law : FnScope ["_law_script", "_law_hand", "_law_p", "_law_d", "_law_curve_here", "_law_clean", "_law_x", "_law_most", "_law_f", "_law_places", "_law_w", "_law_near_here", "_law_k", "_law_value_here", "_law_votes_here"] ["_law_script"] (defScope s_law) := ⟨rfl, rfl, rfl, by decide +kernel, rfl, by decide +kernel, by decide +kernel⟩
/-! ### the models -/
def tab : Tab := []
noncomputable def m__law_take : List PV → VH → Res PV := fnRun 4 (sCons (sSet 2 (eBin ixP (eVar 0) (eC (.int 1))))
    (sCons (sAsg (eBin (addP false) (eVar 2) (eC (.int 1))) (gSubM (eVar 0) (eC (.int 1))))
    (sCons (sSet 3 (eBin ixP (eVar 0) (eC (.int 0))))
    (sCons (sIf (tVal (eBin geP (eVar 2) (eCall (one lenP) (aCons (eVar 3) aNil)))) (sRet (eC (.int 0))) sNil)
    (sRet (eBin modP (eBin divP (eCall (one intP) (aCons (eBin ixP (eVar 3) (eVar 2)) aNil)) (eC (.int 7))) (eVar 1)))))))
noncomputable def m__law_prime : List PV → VH → Res PV := fnRun 4 (sCons (sSet 2 (eLst false (aCons (eC (.int 2)) (aCons (eC (.int 3)) (aCons (eC (.int 5)) (aCons (eC (.int 7)) (aCons (eC (.int 11)) (aCons (eC (.int 13)) (aCons (eC (.int 17)) (aCons (eC (.int 19)) (aCons (eC (.int 23)) (aCons (eC (.int 29)) (aCons (eC (.int 31)) (aCons (eC (.int 37)) (aCons (eC (.int 41)) (aCons (eC (.int 43)) (aCons (eC (.int 47)) (aCons (eC (.int 53)) (aCons (eC (.int 59)) (aCons (eC (.int 61)) (aCons (eC (.int 67)) (aCons (eC (.int 71)) (aCons (eC (.int 73)) (aCons (eC (.int 79)) (aCons (eC (.int 83)) (aCons (eC (.int 89)) (aCons (eC (.int 97)) (aCons (eC (.int 101)) aNil))))))))))))))))))))))))))))
    (sCons (sSet 2 (eLc false (iSeq (eVar 2)) [3] (gSlot 3) (tVal (eBin leP (eVar 3) (eVar 1))) (eVar 3)))
    (sRet (eBin ixP (eVar 2) (eCall m__law_take (aCons (eVar 0) (aCons (eCall (one lenP) (aCons (eVar 2) aNil)) aNil)))))))
noncomputable def m__law_curve : List PV → VH → Res PV := fnRun 4 (sRet (eCall (one tupleP) (aCons (eLc false (iRng (aCons (eBin (addP false) (eVar 2) (eC (.int 1))) aNil)) [3] (gSlot 3) tYesM (eCall m__law_take (aCons (eVar 0) (aCons (eVar 1) aNil)))) aNil)))
noncomputable def m__law_turned : List PV → VH → Res PV := fnRun 5 (sCons (sSet 2 (eCall (one (listP true)) (aCons (eVar 2) aNil)))
    (sCons (sFor (iRng (aCons (eVar 3) aNil)) (gSlot 4) (sAsg (eCall m__law_take (aCons (eVar 0) (aCons (eVar 1) aNil))) (gSubM (eVar 2) (eCall m__law_take (aCons (eVar 0) (aCons (eVar 1) aNil))))))
    (sRet (eCall (one tupleP) (aCons (eVar 2) aNil)))))
noncomputable def m__law_value : List PV → VH → Res PV := fnRun 5 (sCons (sSet 3 (eC (.int 0)))
    (sCons (sFor (iSeq (eUn (revP false) (eVar 1))) (gSlot 4) (sSet 3 (eBin modP (eCall (one intP) (aCons (eBin (addP false) (eBin (mulP false) (eVar 3) (eVar 2)) (eVar 4)) aNil)) (eVar 0))))
    (sRet (eVar 3))))
noncomputable def m__law_near : List PV → VH → Res PV := fnRun 12 (sCons (sSet 3 (eLst false (aCons (eTup aNil) aNil)))
    (sCons (sFor (iRng (aCons (eBin (addP false) (eVar 1) (eC (.int 1))) aNil)) (gSlot 4) (sCons (sSet 5 (eLst false aNil))
    (sCons (sFor (iSeq (eVar 3)) (gSlot 6) (sSet 5 (eBin (addP false) (eVar 5) (eLc false (iRng (aCons (eVar 0) aNil)) [7] (gSlot 7) tYesM (eBin (addP false) (eVar 6) (eTup (aCons (eVar 7) aNil)))))))
    (sSet 3 (eVar 5)))))
    (sCons (sSet 8 (eLst true aNil))
    (sCons (sFor (iSeq (eVar 3)) (gSlot 9) (sCons (sSet 10 (eCall (one lenP) (aCons (eLc false (iRng (aCons (eVar 0) aNil)) [11] (gSlot 11) (tVal (eBin neP (eCall m__law_value (aCons (eVar 0) (aCons (eVar 9) (aCons (eVar 11) aNil)))) (eBin ixP (eVar 2) (eVar 11)))) (eVar 11)) aNil)))
    (sIf (tVal (eBin ltP (eBin (mulP false) (eBin (mulP false) (eC (.int 2)) (eBin (addP false) (eVar 1) (eC (.int 1)))) (eVar 10)) (eVar 0))) (sDrop (eLm appendP (eVar 8) (aCons (eVar 9) aNil))) sNil)))
    (sRet (eFrz (eVar 8)))))))
noncomputable def m_is_integer : List PV → VH → Res PV := fnRun 1 (sRet (eAndM (eCall (isiP tab) (aCons (eVar 0) (aCons (eC (.ty "int")) aNil))) (eNotM (eCall (isiP tab) (aCons (eVar 0) (aCons (eC (.ty "bool")) aNil))))))
noncomputable def m_is_number : List PV → VH → Res PV := fnRun 1 (sRet (eAndM (eCall m_is_integer (aCons (eVar 0) aNil)) (eBin geP (eVar 0) (eC (.int 0)))))
noncomputable def m_is_prime : List PV → VH → Res PV := fnRun 3 (sCons (sIf (tOrM (tNotM (tVal (eCall m_is_number (aCons (eVar 0) aNil)))) (tNotM (tVal (eChain leP leP (eC (.int 2)) (eVar 0) (eVar 1))))) (sRet (eC (.bl false))) sNil)
    (sRet (eCall (one allP) (aCons (eLc false (iRng (aCons (eC (.int 2)) (aCons (eVar 0) aNil))) [2] (gSlot 2) tYesM (eBin neP (eBin modP (eVar 0) (eVar 2)) (eC (.int 0)))) aNil))))
noncomputable def m_check_prime : List PV → VH → Res PV := fnRun 1 (sIf (tNotM (tVal (eCall m_is_prime (aCons (eVar 0) (aCons (eC (.int 101)) aNil))))) (sRaise 1 ["value"] (aCons (eVar 0) aNil)) sNil)
noncomputable def m_is_below : List PV → VH → Res PV := fnRun 2 (sRet (eAndM (eCall m_is_integer (aCons (eVar 0) aNil)) (eChain leP ltP (eC (.int 0)) (eVar 0) (eVar 1))))
noncomputable def m_row_below : List PV → VH → Res PV := fnRun 4 (sCons (sIf (tOrM (tNotM (tVal (eCall (isiP tab) (aCons (eVar 0) (aCons (eC (.ty "tuple")) aNil))))) (tVal (eBin neP (eCall (one lenP) (aCons (eVar 0) aNil)) (eVar 1)))) (sRet (eC (.bl false))) sNil)
    (sCons (sFor (iSeq (eVar 0)) (gSlot 3) (sIf (tNotM (tVal (eCall m_is_below (aCons (eVar 3) (aCons (eVar 2) aNil))))) (sRet (eC (.bl false))) sNil))
    (sRet (eC (.bl true)))))
noncomputable def m_check_table : List PV → VH → Res PV := fnRun 2 (sCons (sDrop (eCall m_check_prime (aCons (eVar 0) aNil)))
    (sIf (tNotM (tVal (eCall m_row_below (aCons (eVar 1) (aCons (eVar 0) (aCons (eVar 0) aNil)))))) (sRaise 2 ["value"] (aCons (eVar 1) aNil)) sNil))
noncomputable def m_check_degree : List PV → VH → Res PV := fnRun 3 (sCons (sDrop (eCall m_check_prime (aCons (eVar 0) aNil)))
    (sCons (sIf (tOrM (tNotM (tVal (eCall m_is_number (aCons (eVar 1) aNil)))) (tOrM (tVal (eBin gtP (eVar 1) (eC (.int 4)))) (tVal (eBin gtP (eBin (addP false) (eVar 1) (eC (.int 2))) (eVar 0))))) (sRaise 1 ["value"] (aCons (eVar 1) aNil)) sNil)
    (sDrop (eCall m_check_table (aCons (eVar 0) (aCons (eVar 2) aNil))))))
noncomputable def m_times_less : List PV → VH → Res PV := fnRun 6 (sCons (sSet 3 (eBin (addP true) (eLst false (aCons (eC (.int 0)) aNil)) (eCall (one (listP false)) (aCons (eVar 1) aNil))))
    (sCons (sFor (iEnm (aCons (eVar 1) aNil)) (gTupM 2 (gCons' (gSlot 4) (gCons' (gSlot 5) gNil'))) (sAsg (eBin modP (eBin subP (eBin ixP (eVar 3) (eVar 4)) (eBin (mulP false) (eVar 2) (eVar 5))) (eVar 0)) (gSubM (eVar 3) (eVar 4))))
    (sRet (eFrz (eVar 3)))))
noncomputable def m_inverse_of : List PV → VH → Res PV := fnRun 3 (sCons (sFor (iRng (aCons (eC (.int 1)) (aCons (eVar 0) aNil))) (gSlot 2) (sIf (tVal (eBin eqP (eBin modP (eBin (mulP false) (eVar 1) (eVar 2)) (eVar 0)) (eC (.int 1)))) (sRet (eVar 2)) sNil))
    (sRet (eC (.int 0))))
noncomputable def m_value_of : List PV → VH → Res PV := fnRun 5 (sCons (sSet 3 (eC (.int 0)))
    (sCons (sFor (iRvs (eVar 1)) (gSlot 4) (sSet 3 (eBin modP (eBin (addP false) (eBin (mulP false) (eVar 3) (eVar 2)) (eVar 4)) (eVar 0))))
    (sRet (eVar 3))))
noncomputable def m_curve_through : List PV → VH → Res PV := fnRun 10 (sCons (sSet 2 (eLc true (iSeq (eVar 1)) [3] (gSlot 3) tYesM (eC (.int 0))))
    (sCons (sSet 4 (eLst false (aCons (eC (.int 1)) aNil)))
    (sCons (sFor (iEnm (aCons (eVar 1) aNil)) (gTupM 2 (gCons' (gSlot 5) (gCons' (gSlot 6) gNil'))) (sCons (sSet 7 (eBin (mulP false) (eBin subP (eVar 6) (eCall m_value_of (aCons (eVar 0) (aCons (eVar 2) (aCons (eVar 5) aNil))))) (eCall m_inverse_of (aCons (eVar 0) (aCons (eCall m_value_of (aCons (eVar 0) (aCons (eVar 4) (aCons (eVar 5) aNil)))) aNil)))))
    (sCons (sFor (iEnm (aCons (eVar 4) aNil)) (gTupM 2 (gCons' (gSlot 8) (gCons' (gSlot 9) gNil'))) (sAsg (eBin modP (eBin (addP false) (eBin ixP (eVar 2) (eVar 8)) (eBin (mulP false) (eVar 7) (eVar 9))) (eVar 0)) (gSubM (eVar 2) (eVar 8))))
    (sSet 4 (eCall m_times_less (aCons (eVar 0) (aCons (eVar 4) (aCons (eVar 5) aNil))))))))
    (sRet (eCall (one tupleP) (aCons (eVar 2) aNil))))))
noncomputable def m_ways_of : List PV → VH → Res PV := fnRun 5 (sCons (sSet 1 (eLst false (aCons (eC (.int 1)) aNil)))
    (sCons (sFor (iRng (aCons (eVar 0) aNil)) (gSlot 2) (sSet 1 (eBin (addP false) (eBin (addP false) (eLst false (aCons (eC (.int 1)) aNil)) (eLc false (iZp (aCons (eVar 1) (aCons (eSl false (eVar 1) (oSome (eC (.int 1))) oNone) aNil))) [3, 4] (gTupM 2 (gCons' (gSlot 3) (gCons' (gSlot 4) gNil'))) tYesM (eBin (addP false) (eVar 3) (eVar 4)))) (eLst false (aCons (eC (.int 1)) aNil)))))
    (sRet (eVar 1))))
noncomputable def m_factors_of : List PV → VH → Res PV := fnRun 3 (sRet (eLc false (iEnm (aCons (eCall m_ways_of (aCons (eBin (addP false) (eVar 0) (eC (.int 1))) aNil)) aNil)) [1, 2] (gTupM 2 (gCons' (gSlot 1) (gCons' (gSlot 2) gNil'))) tYesM (eIfM (tVal (eBin eqP (eBin modP (eVar 1) (eC (.int 2))) (eC (.int 0)))) (eVar 2) (eUn negP (eVar 2)))))
noncomputable def m_step_sum : List PV → VH → Res PV := fnRun 7 (sRet (eBin modP (eCall (one sumP) (aCons (eLc false (iEnm (aCons (eVar 1) aNil)) [5, 6] (gTupM 2 (gCons' (gSlot 5) (gCons' (gSlot 6) gNil'))) tYesM (eBin (mulP false) (eVar 6) (eBin ixP (eVar 2) (eBin modP (eBin (addP false) (eVar 3) (eBin (mulP false) (eVar 5) (eVar 4))) (eVar 0))))) aNil)) (eVar 0)))
noncomputable def m_step_votes : List PV → VH → Res PV := fnRun 8 (sCons (sDrop (eCall m_check_degree (aCons (eVar 0) (aCons (eVar 1) (aCons (eVar 2) aNil)))))
    (sCons (sIf (tNotM (tVal (eCall m_is_below (aCons (eVar 3) (aCons (eVar 0) aNil))))) (sRaise 1 ["value"] (aCons (eVar 3) aNil)) sNil)
    (sCons (sSet 4 (eCall m_factors_of (aCons (eVar 1) aNil)))
    (sCons (sSet 5 (eLc true (iRng (aCons (eVar 0) aNil)) [6] (gSlot 6) tYesM (eC (.int 0))))
    (sCons (sFor (iRng (aCons (eVar 0) aNil)) (gSlot 7) (sAugS (eVar 5) (eBin modP (eBin subP (eBin ixP (eVar 2) (eVar 3)) (eCall m_step_sum (aCons (eVar 0) (aCons (eVar 4) (aCons (eVar 2) (aCons (eVar 3) (aCons (eVar 7) aNil))))))) (eVar 0)) (eC (.int 1)) iaddP))
    (sRet (eCall (one tupleP) (aCons (eVar 5) aNil))))))))
noncomputable def m_places_apart : List PV → VH → Res PV := fnRun 4 (sRet (eCall (one tupleP) (aCons (eLc false (iRng (aCons (eVar 0) aNil)) [3] (gSlot 3) (tVal (eBin neP (eCall m_value_of (aCons (eVar 0) (aCons (eVar 1) (aCons (eVar 3) aNil)))) (eBin ixP (eVar 2) (eVar 3)))) (eVar 3)) aNil)))
noncomputable def m_close_curve : List PV → VH → Res PV := fnRun 8 (sCons (sDrop (eCall m_check_degree (aCons (eVar 0) (aCons (eVar 1) (aCons (eVar 2) aNil)))))
    (sCons (sSet 3 (eLst true aNil))
    (sCons (sFor (iRng (aCons (eBin (addP false) (eVar 1) (eC (.int 1))) aNil)) (gSlot 4) (sCons (sSet 5 (eCall m_step_votes (aCons (eVar 0) (aCons (eVar 1) (aCons (eVar 2) (aCons (eVar 4) aNil))))))
    (sDrop (eLm appendP (eVar 3) (aCons (eBin ixP (eLc false (iRng (aCons (eVar 0) aNil)) [6] (gSlot 6) (tVal (eBin eqP (eBin ixP (eVar 5) (eVar 6)) (eCall maxP (aCons (eVar 5) aNil)))) (eVar 6)) (eC (.int 0))) aNil)))))
    (sCons (sSet 7 (eCall m_curve_through (aCons (eVar 0) (aCons (eVar 3) aNil))))
    (sRet (eIfM (tVal (eBin ltP (eBin (mulP false) (eBin (mulP false) (eC (.int 2)) (eBin (addP false) (eVar 1) (eC (.int 1)))) (eCall (one lenP) (aCons (eCall m_places_apart (aCons (eVar 0) (aCons (eVar 7) (aCons (eVar 2) aNil)))) aNil))) (eVar 0))) (eVar 7) (eC .non)))))))
noncomputable def m__law_is_small : List PV → VH → Res PV := fnRun 8 (sCons (sSet 1 (eCall m__law_prime (aCons (eVar 0) (aCons (eC (.int 7)) aNil))))
    (sCons (sSet 2 (eCall m__law_take (aCons (eVar 0) (aCons (eCall minP (aCons (eC (.int 2)) (aCons (eBin subP (eVar 1) (eC (.int 1))) aNil))) aNil))))
    (sCons (sSet 3 (eCall (one tupleP) (aCons (eLc false (iRng (aCons (eVar 1) aNil)) [4] (gSlot 4) tYesM (eCall m__law_take (aCons (eVar 0) (aCons (eVar 1) aNil)))) aNil)))
    (sCons (sIf (tVal (eBin eqP (eCall m__law_take (aCons (eVar 0) (aCons (eC (.int 2)) aNil))) (eC (.int 0)))) (sCons (sSet 5 (eCall m__law_curve (aCons (eVar 0) (aCons (eVar 1) (aCons (eVar 2) aNil)))))
    (sCons (sSet 3 (eCall (one tupleP) (aCons (eLc false (iRng (aCons (eVar 1) aNil)) [4] (gSlot 4) tYesM (eCall m__law_value (aCons (eVar 1) (aCons (eVar 5) (aCons (eVar 4) aNil))))) aNil)))
    (sSet 3 (eCall m__law_turned (aCons (eVar 0) (aCons (eVar 1) (aCons (eVar 3) (aCons (eCall m__law_take (aCons (eVar 0) (aCons (eC (.int 3)) aNil))) aNil)))))))) sNil)
    (sCons (sSet 6 (eCall m__law_near (aCons (eVar 1) (aCons (eVar 2) (aCons (eVar 3) aNil)))))
    (sCons (sSet 7 (eC .non))
    (sCons (sIf (tVal (eBin gtP (eCall (one lenP) (aCons (eVar 6) aNil)) (eC (.int 0)))) (sSet 7 (eBin ixP (eVar 6) (eC (.int 0)))) sNil)
    (sRet (eAndM (eBin ltP (eCall (one lenP) (aCons (eVar 6) aNil)) (eC (.int 2))) (eBin eqP (eCall (one reprP) (aCons (eCall m_close_curve (aCons (eVar 1) (aCons (eVar 2) (aCons (eVar 3) aNil)))) aNil)) (eCall (one reprP) (aCons (eVar 7) aNil))))))))))))
noncomputable def m__law_draws : List PV → VH → Res PV := fnRun 8 (sCons (sSet 2 (eLc true (iSeq (eVar 0)) [3] (gSlot 3) tYesM (eCall (one absP) (aCons (eCall (one intP) (aCons (eVar 3) aNil)) aNil))))
    (sCons (sSet 4 (eLst true aNil))
    (sCons (sFor (iRng (aCons (eVar 1) aNil)) (gSlot 5) (sCons (sSet 3 (eVar 5))
    (sCons (sIf (tVal (eBin gtP (eCall (one lenP) (aCons (eVar 0) aNil)) (eC (.int 0)))) (sCons (sSet 6 (eBin modP (eVar 5) (eCall (one lenP) (aCons (eVar 0) aNil))))
    (sCons (sSet 3 (eCall (one intP) (aCons (eBin ixP (eVar 0) (eVar 6)) aNil)))
    (sIf (tAndM (tVal (eBin geP (eVar 3) (eBin powP (eC (.int 10)) (eC (.int 18))))) (tVal (eBin gtP (eBin ixP (eVar 2) (eVar 6)) (eC (.int 0))))) (sCons (sDrop (eLm appendP (eVar 4) (aCons (eBin modP (eCall (one intP) (aCons (eBin ixP (eVar 2) (eVar 6)) aNil)) (eC (.int 1000003))) aNil)))
    (sCons (sAsg (eBin divP (eCall (one intP) (aCons (eBin ixP (eVar 2) (eVar 6)) aNil)) (eC (.int 1000003))) (gSubM (eVar 2) (eVar 6)))
    sCnt)) sNil))) sNil)
    (sCons (sSet 7 (eBin modP (eCall (one intP) (aCons (eBin (addP false) (eBin (addP false) (eBin (mulP false) (eVar 3) (eC (.int 48271))) (eBin (mulP false) (eVar 5) (eC (.int 69621)))) (eC (.int 11))) aNil)) (eC (.int 2147483647))))
    (sCons (sSet 7 (eBin modP (eCall (one intP) (aCons (eBin (addP false) (eBin divP (eBin (mulP false) (eVar 7) (eVar 7)) (eC (.int 4096))) (eVar 7)) aNil)) (eC (.int 2147483629))))
    (sDrop (eLm appendP (eVar 4) (aCons (eBin modP (eCall (one intP) (aCons (eBin (addP false) (eBin divP (eBin (mulP false) (eVar 7) (eVar 7)) (eC (.int 4096))) (eBin (mulP false) (eVar 5) (eC (.int 7919)))) aNil)) (eC (.int 2147483629))) aNil))))))))
    (sRet (eFrz (eVar 4))))))
noncomputable def m_broken_steps : List PV → VH → Res PV := fnRun 7 (sCons (sDrop (eCall m_check_degree (aCons (eVar 0) (aCons (eVar 1) (aCons (eVar 2) aNil)))))
    (sCons (sSet 3 (eCall m_factors_of (aCons (eVar 1) aNil)))
    (sCons (sSet 4 (eC (.int 0)))
    (sCons (sFor (iRng (aCons (eVar 0) aNil)) (gSlot 5) (sAug 4 (eCall (one lenP) (aCons (eLc false (iRng (aCons (eVar 0) aNil)) [6] (gSlot 6) (tVal (eBin neP (eCall m_step_sum (aCons (eVar 0) (aCons (eVar 3) (aCons (eVar 2) (aCons (eVar 5) (aCons (eVar 6) aNil)))))) (eC (.int 0)))) (eVar 6)) aNil)) iaddP))
    (sRet (eVar 4))))))
noncomputable def m_is_near : List PV → VH → Res PV := fnRun 3 (sRet (eBin ltP (eBin (mulP false) (eBin (mulP false) (eBin (mulP false) (eCall m_broken_steps (aCons (eVar 0) (aCons (eVar 1) (aCons (eVar 2) aNil)))) (eBin (addP false) (eVar 1) (eC (.int 1)))) (eBin (addP false) (eVar 1) (eC (.int 3)))) (eBin (addP false) (eVar 1) (eC (.int 3)))) (eBin (mulP false) (eBin (mulP false) (eBin (addP false) (eVar 1) (eC (.int 2))) (eVar 0)) (eVar 0))))
noncomputable def m_is_curve : List PV → VH → Res PV := fnRun 2 (sRet (eAndM (eCall (isiP tab) (aCons (eVar 1) (aCons (eC (.ty "tuple")) aNil))) (eAndM (eChain leP leP (eC (.int 1)) (eCall (one lenP) (aCons (eVar 1) aNil)) (eC (.int 5))) (eCall m_row_below (aCons (eVar 1) (aCons (eCall (one lenP) (aCons (eVar 1) aNil)) (aCons (eVar 0) aNil)))))))
noncomputable def m_value_at : List PV → VH → Res PV := fnRun 3 (sCons (sDrop (eCall m_check_prime (aCons (eVar 0) aNil)))
    (sCons (sIf (tNotM (tVal (eCall m_is_curve (aCons (eVar 0) (aCons (eVar 1) aNil))))) (sRaise 2 ["value"] (aCons (eVar 1) aNil)) sNil)
    (sCons (sIf (tNotM (tVal (eCall m_is_below (aCons (eVar 2) (aCons (eVar 0) aNil))))) (sRaise 1 ["value"] (aCons (eVar 2) aNil)) sNil)
    (sRet (eCall m_value_of (aCons (eVar 0) (aCons (eVar 1) (aCons (eVar 2) aNil))))))))
noncomputable def m__law_steps : List PV → VH → Res PV := fnRun 5 (sCons (sSet 1 (eLst false (aCons (eC (.int 1)) aNil)))
    (sCons (sFor (iRng (aCons (eBin (addP false) (eVar 0) (eC (.int 1))) aNil)) (gSlot 2) (sSet 1 (eLc false (iZp (aCons (eBin (addP false) (eVar 1) (eLst false (aCons (eC (.int 0)) aNil))) (aCons (eBin (addP false) (eLst false (aCons (eC (.int 0)) aNil)) (eVar 1)) aNil))) [3, 4] (gTupM 2 (gCons' (gSlot 3) (gCons' (gSlot 4) gNil'))) tYesM (eBin subP (eVar 3) (eVar 4)))))
    (sRet (eVar 1))))
noncomputable def m__law_votes : List PV → VH → Res PV := fnRun 9 (sCons (sSet 4 (eCall m__law_steps (aCons (eVar 1) aNil)))
    (sCons (sSet 5 (eLc true (iRng (aCons (eVar 0) aNil)) [6] (gSlot 6) tYesM (eC (.int 0))))
    (sCons (sFor (iRng (aCons (eVar 0) aNil)) (gSlot 7) (sCons (sSet 6 (eBin modP (eCall (one intP) (aCons (eUn negP (eCall (one sumP) (aCons (eLc false (iRng (aCons (eC (.int 1)) (aCons (eBin (addP false) (eVar 1) (eC (.int 2))) aNil))) [8] (gSlot 8) tYesM (eBin (mulP false) (eBin ixP (eVar 4) (eVar 8)) (eBin ixP (eVar 2) (eBin modP (eCall (one intP) (aCons (eBin (addP false) (eVar 3) (eBin (mulP false) (eVar 8) (eVar 7))) aNil)) (eVar 0))))) aNil))) aNil)) (eVar 0)))
    (sAsg (eBin (addP false) (eBin ixP (eVar 5) (eVar 6)) (eC (.int 1))) (gSubM (eVar 5) (eVar 6)))))
    (sRet (eFrz (eVar 5))))))
noncomputable def m_wrong_on : List PV → VH → Res PV := fnRun 3 (sCons (sDrop (eCall m_check_prime (aCons (eVar 0) aNil)))
    (sCons (sIf (tNotM (tVal (eCall m_is_curve (aCons (eVar 0) (aCons (eVar 1) aNil))))) (sRaise 2 ["value"] (aCons (eVar 1) aNil)) sNil)
    (sCons (sIf (tNotM (tVal (eCall m_row_below (aCons (eVar 2) (aCons (eVar 0) (aCons (eVar 0) aNil)))))) (sRaise 2 ["value"] (aCons (eVar 2) aNil)) sNil)
    (sRet (eCall m_places_apart (aCons (eVar 0) (aCons (eVar 1) (aCons (eVar 2) aNil))))))))
noncomputable def m__law_broken : List PV → VH → Res PV := fnRun 9 (sCons (sSet 3 (eC (.int 0)))
    (sCons (sSet 4 (eCall m__law_steps (aCons (eVar 1) aNil)))
    (sCons (sFor (iRng (aCons (eVar 0) aNil)) (gSlot 5) (sFor (iRng (aCons (eVar 0) aNil)) (gSlot 6) (sCons (sSet 7 (eCall (one sumP) (aCons (eLc false (iRng (aCons (eBin (addP false) (eVar 1) (eC (.int 2))) aNil)) [8] (gSlot 8) tYesM (eBin (mulP false) (eBin ixP (eVar 4) (eVar 8)) (eBin ixP (eVar 2) (eBin modP (eCall (one intP) (aCons (eBin (addP false) (eVar 5) (eBin (mulP false) (eVar 8) (eVar 6))) aNil)) (eVar 0))))) aNil)))
    (sIf (tVal (eBin gtP (eBin modP (eCall (one intP) (aCons (eVar 7) aNil)) (eVar 0)) (eC (.int 0)))) (sSet 3 (eBin (addP false) (eVar 3) (eC (.int 1)))) sNil))))
    (sRet (eVar 3)))))
noncomputable def m_law : List PV → VH → Res PV := fnRun 15 (sCons (sSet 1 (eLst true (aCons (eCall m__law_draws (aCons (eVar 0) (aCons (eC (.int 260)) aNil))) (aCons (eC (.int 0)) aNil))))
    (sCons (sSet 2 (eCall m__law_prime (aCons (eVar 1) (aCons (eBin ixP (eLst false (aCons (eC (.int 13)) (aCons (eC (.int 37)) (aCons (eC (.int 101)) aNil)))) (eCall m__law_take (aCons (eVar 1) (aCons (eC (.int 3)) aNil)))) aNil))))
    (sCons (sSet 3 (eCall m__law_take (aCons (eVar 1) (aCons (eCall minP (aCons (eC (.int 5)) (aCons (eBin subP (eVar 2) (eC (.int 1))) aNil))) aNil))))
    (sCons (sSet 4 (eCall m__law_curve (aCons (eVar 1) (aCons (eVar 2) (aCons (eVar 3) aNil)))))
    (sCons (sSet 5 (eCall (one tupleP) (aCons (eLc false (iRng (aCons (eVar 2) aNil)) [6] (gSlot 6) tYesM (eCall m__law_value (aCons (eVar 2) (aCons (eVar 4) (aCons (eVar 6) aNil))))) aNil)))
    (sCons (sSet 7 (eBin divP (eBin subP (eVar 2) (eC (.int 1))) (eBin (mulP false) (eC (.int 2)) (eBin (addP false) (eVar 3) (eC (.int 1))))))
    (sCons (sSet 8 (eCall m__law_turned (aCons (eVar 1) (aCons (eVar 2) (aCons (eVar 5) (aCons (eBin (mulP false) (eBin ixP (eLst false (aCons (eC (.int 0)) (aCons (eC (.int 1)) (aCons (eVar 7) (aCons (eCall m__law_take (aCons (eVar 1) (aCons (eBin (addP false) (eVar 7) (eC (.int 1))) aNil))) aNil))))) (eCall m__law_take (aCons (eVar 1) (aCons (eC (.int 4)) aNil)))) (eCall (one intP) (aCons (eBin gtP (eVar 7) (eC (.int 0))) aNil))) aNil))))))
    (sCons (sSet 9 (eCall (one tupleP) (aCons (eLc false (iRng (aCons (eVar 2) aNil)) [6] (gSlot 6) (tVal (eBin neP (eBin ixP (eVar 8) (eVar 6)) (eBin ixP (eVar 5) (eVar 6)))) (eVar 6)) aNil)))
    (sCons (sSet 10 (eCall (one lenP) (aCons (eVar 9) aNil)))
    (sCons (sIf (tOrM (tVal (eBin neP (eCall (one reprP) (aCons (eCall m_close_curve (aCons (eVar 2) (aCons (eVar 3) (aCons (eVar 8) aNil)))) aNil)) (eCall (one reprP) (aCons (eVar 4) aNil)))) (tVal (eBin neP (eCall (one reprP) (aCons (eCall m_wrong_on (aCons (eVar 2) (aCons (eVar 4) (aCons (eVar 8) aNil)))) aNil)) (eCall (one reprP) (aCons (eVar 9) aNil))))) (sRet (eC (.bl false))) sNil)
    (sCons (sSet 11 (eC (.bl false)))
    (sCons (sIf (tVal (eBin ltP (eVar 2) (eC (.int 38)))) (sCons (sSet 11 (eCall m_is_near (aCons (eVar 2) (aCons (eVar 3) (aCons (eVar 8) aNil)))))
    (sCons (sIf (tVal (eBin neP (eVar 11) (eBin ltP (eBin (mulP false) (eBin (mulP false) (eBin (mulP false) (eCall m__law_broken (aCons (eVar 2) (aCons (eVar 3) (aCons (eVar 8) aNil)))) (eBin (addP false) (eVar 3) (eC (.int 1)))) (eBin (addP false) (eVar 3) (eC (.int 3)))) (eBin (addP false) (eVar 3) (eC (.int 3)))) (eBin (mulP false) (eBin (mulP false) (eBin (addP false) (eVar 3) (eC (.int 2))) (eVar 2)) (eVar 2))))) (sRet (eC (.bl false))) sNil)
    (sIf (tAndM (tVal (eVar 11)) (tVal (eBin geP (eBin (mulP false) (eBin (mulP false) (eVar 10) (eBin (addP false) (eVar 3) (eC (.int 1)))) (eBin (addP false) (eVar 3) (eC (.int 3)))) (eVar 2)))) (sRet (eC (.bl false))) sNil))) sNil)
    (sCons (sFor (iRng (aCons (eC (.int 3)) aNil)) (gSlot 12) (sCons (sSet 6 (eCall m__law_take (aCons (eVar 1) (aCons (eVar 2) aNil))))
    (sCons (sSet 13 (eCall m_value_at (aCons (eVar 2) (aCons (eVar 4) (aCons (eVar 6) aNil)))))
    (sCons (sSet 14 (eCall m__law_votes (aCons (eVar 2) (aCons (eVar 3) (aCons (eVar 8) (aCons (eVar 6) aNil))))))
    (sCons (sIf (tOrM (tVal (eBin neP (eCall (one reprP) (aCons (eVar 13) aNil)) (eCall (one reprP) (aCons (eBin ixP (eVar 5) (eVar 6)) aNil)))) (tOrM (tVal (eBin leP (eBin (mulP false) (eC (.int 2)) (eBin ixP (eVar 14) (eVar 13))) (eVar 2))) (tVal (eBin gtP (eBin subP (eVar 2) (eBin ixP (eVar 14) (eVar 13))) (eBin (mulP false) (eBin (addP false) (eVar 3) (eC (.int 1))) (eVar 10)))))) (sRet (eC (.bl false))) sNil)
    (sIf (tAndM (tVal (eVar 11)) (tVal (eBin leP (eBin (mulP false) (eBin (addP false) (eVar 3) (eC (.int 3))) (eBin ixP (eVar 14) (eVar 13))) (eBin (mulP false) (eBin (addP false) (eVar 3) (eC (.int 2))) (eVar 2))))) (sRet (eC (.bl false))) sNil))))))
    (sRet (eCall m__law_is_small (aCons (eVar 1) aNil))))))))))))))))
/-! ### what the top has written -/
structure Txt (K : PySem.W.Frag) (mg : Str → Option Value) (c : Ck) (fa : Nat → Addr) (fd : Nat → FuncData) : Prop where
  ex : c.ex = none
  tab : TabOk c K tab
  b_len : mg "len" = none
  b_int : mg "int" = none
  b_range : mg "range" = none
  b_tuple : mg "tuple" = none
  b_list : mg "list" = none
  b_isinstance : mg "isinstance" = none
  b_bool : mg "bool" = none
  b_all : mg "all" = none
  b_enumerate : mg "enumerate" = none
  b_reversed : mg "reversed" = none
  b_zip : mg "zip" = none
  b_sum : mg "sum" = none
  b_max : mg "max" = none
  b_min : mg "min" = none
  b_repr : mg "repr" = none
  b_abs : mg "abs" = none
  g_MOST_PRIME : ∃ t, mg "MOST_PRIME" = some (.int 101 t)
  g_MOST_DEGREE : ∃ t, mg "MOST_DEGREE" = some (.int 4 t)
  g_MOST_NUMBERS : ∃ t, mg "MOST_NUMBERS" = some (.int 5 t)
  f__law_take : Fd K mg "_law_take" "_law_take" s__law_take ["_law_hand", "_law_many"] (fa 26) (fd 26)
  f__law_prime : Fd K mg "_law_prime" "_law_prime" s__law_prime ["_law_hand", "_law_most"] (fa 27) (fd 27)
  f__law_curve : Fd K mg "_law_curve" "_law_curve" s__law_curve ["_law_hand", "_law_p", "_law_d"] (fa 29) (fd 29)
  f__law_turned : Fd K mg "_law_turned" "_law_turned" s__law_turned ["_law_hand", "_law_p", "_law_f", "_law_many"] (fa 30) (fd 30)
  f__law_value : Fd K mg "_law_value" "_law_value" s__law_value ["_law_p", "_law_curve_here", "_law_x"] (fa 28) (fd 28)
  f__law_near : Fd K mg "_law_near" "_law_near" s__law_near ["_law_p", "_law_d", "_law_f"] (fa 34) (fd 34)
  f_is_integer : Fd K mg "is_integer" "is_integer" s_is_integer ["value"] (fa 2) (fd 2)
  f_is_number : Fd K mg "is_number" "is_number" s_is_number ["value"] (fa 3) (fd 3)
  f_is_prime : Fd K mg "is_prime" "is_prime" s_is_prime ["value", "most"] (fa 7) (fd 7)
  x_InvalidNumber : Xc K mg "InvalidNumber" "InvalidNumber.__init__" s_InvalidNumber_init ["self", "value"] (c 1) (fa 0) (fd 0)
  n_InvalidNumber_value : PySem.W.findIn K (.ref (c 1)) "value" = some none
  f_check_prime : Fd K mg "check_prime" "check_prime" s_check_prime ["p"] (fa 8) (fd 8)
  f_is_below : Fd K mg "is_below" "is_below" s_is_below ["value", "bound"] (fa 4) (fd 4)
  f_row_below : Fd K mg "row_below" "row_below" s_row_below ["value", "length", "bound"] (fa 5) (fd 5)
  x_InvalidMap : Xc K mg "InvalidMap" "InvalidMap.__init__" s_InvalidMap_init ["self", "value"] (c 2) (fa 1) (fd 1)
  n_InvalidMap_value : PySem.W.findIn K (.ref (c 2)) "value" = some none
  f_check_table : Fd K mg "check_table" "check_table" s_check_table ["p", "f"] (fa 9) (fd 9)
  f_check_degree : Fd K mg "check_degree" "check_degree" s_check_degree ["p", "d", "f"] (fa 10) (fd 10)
  f_times_less : Fd K mg "times_less" "times_less" s_times_less ["p", "curve", "x"] (fa 17) (fd 17)
  f_inverse_of : Fd K mg "inverse_of" "inverse_of" s_inverse_of ["p", "number"] (fa 16) (fd 16)
  f_value_of : Fd K mg "value_of" "value_of" s_value_of ["p", "curve", "x"] (fa 19) (fd 19)
  f_curve_through : Fd K mg "curve_through" "curve_through" s_curve_through ["p", "values"] (fa 18) (fd 18)
  f_ways_of : Fd K mg "ways_of" "ways_of" s_ways_of ["many"] (fa 6) (fd 6)
  f_factors_of : Fd K mg "factors_of" "factors_of" s_factors_of ["d"] (fa 11) (fd 11)
  f_step_sum : Fd K mg "step_sum" "step_sum" s_step_sum ["p", "factors", "f", "x", "h"] (fa 12) (fd 12)
  f_step_votes : Fd K mg "step_votes" "step_votes" s_step_votes ["p", "d", "f", "x"] (fa 14) (fd 14)
  f_places_apart : Fd K mg "places_apart" "places_apart" s_places_apart ["p", "curve", "f"] (fa 20) (fd 20)
  f_close_curve : Fd K mg "close_curve" "close_curve" s_close_curve ["p", "d", "f"] (fa 21) (fd 21)
  f__law_is_small : Fd K mg "_law_is_small" "_law_is_small" s__law_is_small ["_law_hand"] (fa 35) (fd 35)
  f__law_draws : Fd K mg "_law_draws" "_law_draws" s__law_draws ["_law_script", "_law_many"] (fa 25) (fd 25)
  f_broken_steps : Fd K mg "broken_steps" "broken_steps" s_broken_steps ["p", "d", "f"] (fa 13) (fd 13)
  f_is_near : Fd K mg "is_near" "is_near" s_is_near ["p", "d", "f"] (fa 15) (fd 15)
  f_is_curve : Fd K mg "is_curve" "is_curve" s_is_curve ["p", "value"] (fa 22) (fd 22)
  f_value_at : Fd K mg "value_at" "value_at" s_value_at ["p", "curve", "x"] (fa 23) (fd 23)
  f__law_steps : Fd K mg "_law_steps" "_law_steps" s__law_steps ["_law_d"] (fa 31) (fd 31)
  f__law_votes : Fd K mg "_law_votes" "_law_votes" s__law_votes ["_law_p", "_law_d", "_law_f", "_law_x"] (fa 33) (fd 33)
  f_wrong_on : Fd K mg "wrong_on" "wrong_on" s_wrong_on ["p", "curve", "f"] (fa 24) (fd 24)
  f__law_broken : Fd K mg "_law_broken" "_law_broken" s__law_broken ["_law_p", "_law_d", "_law_f"] (fa 32) (fd 32)
  f_law : Fd K mg "law" "law" s_law ["_law_script"] (fa 36) (fd 36)
section
variable {P : Program} {w : World} {K : PySem.W.Frag} {mg : Str → Option Value} {base : Heap} {c : Ck} {fa : Nat → Addr} {fd : Nat → FuncData}
theorem ok__law_take (T : Txt K mg c fa fd) : FnS c P w K mg base 1 (fa 26) (fd 26) ["_law_hand", "_law_many"] m__law_take := by
  have sc := sc__law_take
  refine FnS.of T.f__law_take.F sc fun cdv A outer s H E hr hgd => ?_
  have tk0 := takes_of (X := cxOf (L2.CX P w) P w K mg base ["_law_hand", "_law_many", "_law_at", "_law_draws_here"] "_law_take" (defScope s__law_take) (fa 26) cdv A outer s H E) (E := E) rfl rfl rfl rfl
  have hp0 := passes_of (X := cxOf (L2.CX P w) P w K mg base ["_law_hand", "_law_many", "_law_at", "_law_draws_here"] "_law_take" (defScope s__law_take) (fa 26) cdv A outer s H E) rfl
  exact (SS.cons (S1.set sc.nd rfl (.inl rfl) (SE.ix (SE.var 0) SE.int))
    (SS.cons (S1.asg (SE.op op_addAll (addS false) (SE.var 2) SE.int) (SG.sub (W := WF E) (SE.var 0) SE.int))
    (SS.cons (S1.set sc.nd rfl (.inl rfl) (SE.ix (SE.var 0) SE.int))
    (SS.cons (S1.ite (ST.cmp op_ge geS (SE.var 2) (SE.callB call_lenAll lenS (by rfl) T.b_len PySem.boot_len (SA.cons (SE.var 3) SA.nil)) (nomark _)) (SS.one (S1.ret SE.int)) SS.nil)
    (SS.one (S1.ret (SE.op op_mod modS (SE.op op_div divS (SE.callTy call_intAll intS (by rfl) T.b_int (by rfl) (SA.cons (SE.ix (SE.var 3) (SE.var 2)) SA.nil)) SE.int) (SE.var 1))))))))
theorem ok__law_prime (T : Txt K mg c fa fd) : FnS c P w K mg base 2 (fa 27) (fd 27) ["_law_hand", "_law_most"] m__law_prime := by
  have sc := sc__law_prime
  refine FnS.of T.f__law_prime.F sc fun cdv A outer s H E hr hgd => ?_
  have tk0 := takes_of (X := cxOf (L2.CX P w) P w K mg base ["_law_hand", "_law_most", "_law_primes", "_law_p"] "_law_prime" (defScope s__law_prime) (fa 27) cdv A outer s H E) (E := E) rfl rfl rfl rfl
  have hp0 := passes_of (X := cxOf (L2.CX P w) P w K mg base ["_law_hand", "_law_most", "_law_primes", "_law_p"] "_law_prime" (defScope s__law_prime) (fa 27) cdv A outer s H E) rfl
  exact (SS.cons (S1.set sc.nd rfl (.inl rfl) (SE.lst false (SA.cons SE.int (SA.cons SE.int (SA.cons SE.int (SA.cons SE.int (SA.cons SE.int (SA.cons SE.int (SA.cons SE.int (SA.cons SE.int (SA.cons SE.int (SA.cons SE.int (SA.cons SE.int (SA.cons SE.int (SA.cons SE.int (SA.cons SE.int (SA.cons SE.int (SA.cons SE.int (SA.cons SE.int (SA.cons SE.int (SA.cons SE.int (SA.cons SE.int (SA.cons SE.int (SA.cons SE.int (SA.cons SE.int (SA.cons SE.int (SA.cons SE.int (SA.cons SE.int SA.nil))))))))))))))))))))))))))))
    (SS.cons (S1.setLc (own := [("_law_p", 3)]) false rfl sc.nd rfl rfl (sw_true rfl rfl rfl rfl) (SI.seq (SE.var 2)) (by exact blkOk_by (N := ["_law_hand", "_law_most", "_law_primes", "_law_p"]) (sc := defScope s__law_prime) (by decide +kernel)) (fun _ _ _ _ _ => (SGw.name sc.nd rfl (.inl rfl) (by decide))) (fun _ _ _ _ _ => (STs.one (ST.cmp op_le leS (SE.var 3) (SE.var 1) (nomark _)))) (fun _ _ _ _ _ => (SE.var 3)))
    (SS.one (S1.ret (SE.ix (SE.var 2) (SE.call (ok__law_take T) (hr.mono (by decide)) hgd (by rfl) T.f__law_take.m T.f__law_take.F.kp T.f__law_take.b tk0 (SA.cons (SE.var 0) (SA.cons (SE.callB call_lenAll lenS (by rfl) T.b_len PySem.boot_len (SA.cons (SE.var 2) SA.nil)) SA.nil))))))))
theorem ok__law_curve (T : Txt K mg c fa fd) : FnS c P w K mg base 2 (fa 29) (fd 29) ["_law_hand", "_law_p", "_law_d"] m__law_curve := by
  have sc := sc__law_curve
  refine FnS.of T.f__law_curve.F sc fun cdv A outer s H E hr hgd => ?_
  have tk0 := takes_of (X := cxOf (L2.CX P w) P w K mg base ["_law_hand", "_law_p", "_law_d", "_law_k"] "_law_curve" (defScope s__law_curve) (fa 29) cdv A outer s H E) (E := E) rfl rfl rfl rfl
  have hp0 := passes_of (X := cxOf (L2.CX P w) P w K mg base ["_law_hand", "_law_p", "_law_d", "_law_k"] "_law_curve" (defScope s__law_curve) (fa 29) cdv A outer s H E) rfl
  exact (SS.one (S1.ret (SE.callTy call_tuple_of tupleS (by rfl) T.b_tuple (by rfl) (SA.cons (SE.lc (own := [("_law_k", 3)]) false rfl sc.nd (SI.range1 (by rfl) T.b_range (SA.cons (SE.op op_addAll (addS false) (SE.var 2) SE.int) SA.nil)) (by exact blkOk_by (N := ["_law_hand", "_law_p", "_law_d", "_law_k"]) (sc := defScope s__law_curve) (by decide +kernel)) (fun _ _ _ _ _ => (SGw.name sc.nd rfl (.inl rfl) (by decide))) (fun _ _ _ _ _ => STs.nil) (fun _ _ _ _ _ => (SE.call (ok__law_take T) (hr.mono (by decide)) hgd (by rfl) T.f__law_take.m T.f__law_take.F.kp T.f__law_take.b takes0 (SA.cons (SE.var 0) (SA.cons (SE.var 1) SA.nil))))) SA.nil))))
theorem ok__law_turned (T : Txt K mg c fa fd) : FnS c P w K mg base 2 (fa 30) (fd 30) ["_law_hand", "_law_p", "_law_f", "_law_many"] m__law_turned := by
  have sc := sc__law_turned
  refine FnS.of T.f__law_turned.F sc fun cdv A outer s H E hr hgd => ?_
  have tk0 := takes_of (X := cxOf (L2.CX P w) P w K mg base ["_law_hand", "_law_p", "_law_f", "_law_many", "_law_k"] "_law_turned" (defScope s__law_turned) (fa 30) cdv A outer s H E) (E := E) rfl rfl rfl rfl
  have hp0 := passes_of (X := cxOf (L2.CX P w) P w K mg base ["_law_hand", "_law_p", "_law_f", "_law_many", "_law_k"] "_law_turned" (defScope s__law_turned) (fa 30) cdv A outer s H E) rfl
  exact (SS.cons (S1.set sc.nd rfl (.inl rfl) (SE.callTy call_list_of (listS true) (by rfl) T.b_list (by rfl) (SA.cons (SE.var 2) SA.nil)))
    (SS.cons (S1.for hp0 rfl (SI.range1 (by rfl) T.b_range (SA.cons (SE.var 3) SA.nil)) (SG.name sc.nd rfl (.inl rfl)) (SS.one (S1.asg (SE.call (ok__law_take T) (hr.mono (by decide)) hgd (by rfl) T.f__law_take.m T.f__law_take.F.kp T.f__law_take.b tk0 (SA.cons (SE.var 0) (SA.cons (SE.var 1) SA.nil))) (SG.sub (W := WF E) (SE.var 2) (SE.call (ok__law_take T) (hr.mono (by decide)) hgd (by rfl) T.f__law_take.m T.f__law_take.F.kp T.f__law_take.b tk0 (SA.cons (SE.var 0) (SA.cons (SE.var 1) SA.nil)))))))
    (SS.one (S1.ret (SE.callTy call_tuple_of tupleS (by rfl) T.b_tuple (by rfl) (SA.cons (SE.var 2) SA.nil))))))
theorem ok__law_value (T : Txt K mg c fa fd) : FnS c P w K mg base 1 (fa 28) (fd 28) ["_law_p", "_law_curve_here", "_law_x"] m__law_value := by
  have sc := sc__law_value
  refine FnS.of T.f__law_value.F sc fun cdv A outer s H E hr hgd => ?_
  have tk0 := takes_of (X := cxOf (L2.CX P w) P w K mg base ["_law_p", "_law_curve_here", "_law_x", "_law_total", "_law_c"] "_law_value" (defScope s__law_value) (fa 28) cdv A outer s H E) (E := E) rfl rfl rfl rfl
  have hp0 := passes_of (X := cxOf (L2.CX P w) P w K mg base ["_law_p", "_law_curve_here", "_law_x", "_law_total", "_law_c"] "_law_value" (defScope s__law_value) (fa 28) cdv A outer s H E) rfl
  exact (SS.cons (S1.set sc.nd rfl (.inl rfl) SE.int)
    (SS.cons (S1.for hp0 rfl (SI.seq (SE.rev false (SE.var 1))) (SG.name sc.nd rfl (.inl rfl)) (SS.one (S1.set sc.nd rfl (.inl rfl) (SE.op op_mod modS (SE.callTy call_intAll intS (by rfl) T.b_int (by rfl) (SA.cons (SE.op op_addAll (addS false) (SE.op op_mulAll (mulS false) (SE.var 3) (SE.var 2)) (SE.var 4)) SA.nil)) (SE.var 0)))))
    (SS.one (S1.ret (SE.var 3)))))
theorem ok__law_near (T : Txt K mg c fa fd) : FnS c P w K mg base 2 (fa 34) (fd 34) ["_law_p", "_law_d", "_law_f"] m__law_near := by
  have sc := sc__law_near
  refine FnS.of T.f__law_near.F sc fun cdv A outer s H E hr hgd => ?_
  have tk0 := takes_of (X := cxOf (L2.CX P w) P w K mg base ["_law_p", "_law_d", "_law_f", "_law_curves", "_law_k", "_law_longer", "_law_one", "_law_c", "_law_found", "_law_curve_here", "_law_w", "_law_x"] "_law_near" (defScope s__law_near) (fa 34) cdv A outer s H E) (E := E) rfl rfl rfl rfl
  have hp0 := passes_of (X := cxOf (L2.CX P w) P w K mg base ["_law_p", "_law_d", "_law_f", "_law_curves", "_law_k", "_law_longer", "_law_one", "_law_c", "_law_found", "_law_curve_here", "_law_w", "_law_x"] "_law_near" (defScope s__law_near) (fa 34) cdv A outer s H E) rfl
  exact (SS.cons (S1.set sc.nd rfl (.inl rfl) (SE.lst false (SA.cons (SE.tup SA.nil) SA.nil)))
    (SS.cons (S1.for hp0 rfl (SI.range1 (by rfl) T.b_range (SA.cons (SE.op op_addAll (addS false) (SE.var 1) SE.int) SA.nil)) (SG.name sc.nd rfl (.inl rfl)) (SS.cons (S1.set sc.nd rfl (.inl rfl) (SE.lst false SA.nil))
    (SS.cons (S1.for hp0 rfl (SI.seq (SE.var 3)) (SG.name sc.nd rfl (.inr rfl)) (SS.one (S1.set sc.nd rfl (.inl rfl) (SE.op op_addAll (addS false) (SE.var 5) (SE.lc (own := [("_law_c", 7)]) false rfl sc.nd (SI.range1 (by rfl) T.b_range (SA.cons (SE.var 0) SA.nil)) (by exact blkOk_by (N := ["_law_p", "_law_d", "_law_f", "_law_curves", "_law_k", "_law_longer", "_law_one", "_law_c", "_law_found", "_law_curve_here", "_law_w", "_law_x"]) (sc := defScope s__law_near) (by decide +kernel)) (fun _ _ _ _ _ => (SGw.name sc.nd rfl (.inl rfl) (by decide))) (fun _ _ _ _ _ => STs.nil) (fun _ _ _ _ _ => (SE.op op_addAll (addS false) (SE.var 6) (SE.tup (SA.cons (SE.var 7) SA.nil)))))))))
    (SS.one (S1.set sc.nd rfl (.inl rfl) (SE.var 5))))))
    (SS.cons (S1.set sc.nd rfl (.inl rfl) (SE.lst true SA.nil))
    (SS.cons (S1.for hp0 rfl (SI.seq (SE.var 3)) (SG.name sc.nd rfl (.inr rfl)) (SS.cons (S1.set sc.nd rfl (.inl rfl) (SE.callB call_lenAll lenS (by rfl) T.b_len PySem.boot_len (SA.cons (SE.lc (own := [("_law_x", 11)]) false rfl sc.nd (SI.range1 (by rfl) T.b_range (SA.cons (SE.var 0) SA.nil)) (by exact blkOk_by (N := ["_law_p", "_law_d", "_law_f", "_law_curves", "_law_k", "_law_longer", "_law_one", "_law_c", "_law_found", "_law_curve_here", "_law_w", "_law_x"]) (sc := defScope s__law_near) (by decide +kernel)) (fun _ _ _ _ _ => (SGw.name sc.nd rfl (.inl rfl) (by decide))) (fun _ _ _ _ _ => (STs.one (ST.cmp (op_neAll hr.units) neS (SE.call (ok__law_value T) (hr.mono (by decide)) hgd (by rfl) T.f__law_value.m T.f__law_value.F.kp T.f__law_value.b takes0 (SA.cons (SE.var 0) (SA.cons (SE.var 9) (SA.cons (SE.var 11) SA.nil)))) (SE.ix (SE.var 2) (SE.var 11)) (nomark _)))) (fun _ _ _ _ _ => (SE.var 11))) SA.nil)))
    (SS.one (S1.ite (ST.cmp op_lt ltS (SE.op op_mulAll (mulS false) (SE.op op_mulAll (mulS false) SE.int (SE.op op_addAll (addS false) (SE.var 1) SE.int)) (SE.var 10)) (SE.var 0) (nomark _)) (SS.one (S1.drop (SE.lm PySem.F.slot_list_append PySem.F.type_list_append mt_append appendS (SE.var 8) (SA.cons (SE.var 9) SA.nil)))) SS.nil))))
    (SS.one (S1.ret (SE.frz (SE.var 8))))))))
theorem ok_is_integer (T : Txt K mg c fa fd) : FnS c P w K mg base 1 (fa 2) (fd 2) ["value"] m_is_integer := by
  have sc := sc_is_integer
  refine FnS.of T.f_is_integer.F sc fun cdv A outer s H E hr hgd => ?_
  have tk0 := takes_of (X := cxOf (L2.CX P w) P w K mg base ["value"] "is_integer" (defScope s_is_integer) (fa 2) cdv A outer s H E) (E := E) rfl rfl rfl rfl
  have hp0 := passes_of (X := cxOf (L2.CX P w) P w K mg base ["value"] "is_integer" (defScope s_is_integer) (fa 2) cdv A outer s H E) rfl
  exact (SS.one (S1.ret (SE.and (SE.callB call_isiAll (isiS T.tab) (by rfl) T.b_isinstance (by rfl) (SA.cons (SE.var 0) (SA.cons (SE.bty (by rfl) T.b_int (by rfl)) SA.nil))) (SE.one (SE.not (SE.callB call_isiAll (isiS T.tab) (by rfl) T.b_isinstance (by rfl) (SA.cons (SE.var 0) (SA.cons (SE.bty (by rfl) T.b_bool (by rfl)) SA.nil))))))))
theorem ok_is_number (T : Txt K mg c fa fd) : FnS c P w K mg base 2 (fa 3) (fd 3) ["value"] m_is_number := by
  have sc := sc_is_number
  refine FnS.of T.f_is_number.F sc fun cdv A outer s H E hr hgd => ?_
  have tk0 := takes_of (X := cxOf (L2.CX P w) P w K mg base ["value"] "is_number" (defScope s_is_number) (fa 3) cdv A outer s H E) (E := E) rfl rfl rfl rfl
  have hp0 := passes_of (X := cxOf (L2.CX P w) P w K mg base ["value"] "is_number" (defScope s_is_number) (fa 3) cdv A outer s H E) rfl
  exact (SS.one (S1.ret (SE.and (SE.call (ok_is_integer T) (hr.mono (by decide)) hgd (by rfl) T.f_is_integer.m T.f_is_integer.F.kp T.f_is_integer.b tk0 (SA.cons (SE.var 0) SA.nil)) (SE.one (SE.cmp op_ge geS (SE.var 0) SE.int (nomark _))))))
theorem ok_is_prime (T : Txt K mg c fa fd) : FnS c P w K mg base 3 (fa 7) (fd 7) ["value", "most"] m_is_prime := by
  have sc := sc_is_prime
  refine FnS.of T.f_is_prime.F sc fun cdv A outer s H E hr hgd => ?_
  have tk0 := takes_of (X := cxOf (L2.CX P w) P w K mg base ["value", "most", "divisor"] "is_prime" (defScope s_is_prime) (fa 7) cdv A outer s H E) (E := E) rfl rfl rfl rfl
  have hp0 := passes_of (X := cxOf (L2.CX P w) P w K mg base ["value", "most", "divisor"] "is_prime" (defScope s_is_prime) (fa 7) cdv A outer s H E) rfl
  exact (SS.cons (S1.ite (SW.st (SW.or (ST.not (ST.val (SE.call (ok_is_number T) (hr.mono (by decide)) hgd (by rfl) T.f_is_number.m T.f_is_number.F.kp T.f_is_number.b tk0 (SA.cons (SE.var 0) SA.nil)))) (SW.or1 (ST.not (ST.chain op_le op_le leS leS SE.int (SE.var 0) (SE.var 1)))))) (SS.one (S1.ret SE.bl)) SS.nil)
    (SS.one (S1.ret (SE.callB (cr_all rfl) allS (by rfl) T.b_all (by rfl) (SA.cons (SE.lc (own := [("divisor", 2)]) false rfl sc.nd (SI.range2 (by rfl) T.b_range (SA.cons SE.int (SA.cons (SE.var 0) SA.nil))) (by exact blkOk_by (N := ["value", "most", "divisor"]) (sc := defScope s_is_prime) (by decide +kernel)) (fun _ _ _ _ _ => (SGw.name sc.nd rfl (.inl rfl) (by decide))) (fun _ _ _ _ _ => STs.nil) (fun _ _ _ _ _ => (SE.cmp (op_neAll hr.units) neS (SE.op op_mod modS (SE.var 0) (SE.var 2)) SE.int (nomark _)))) SA.nil)))))
theorem ok_InvalidNumber_init (T : Txt K mg c fa fd) : FnOk P w K mg base (L2.CX P w) 1 (fa 0) (fd 0) ["self", "value"] (spX1 (c 1) "value") := by
  refine T.x_InvalidNumber.F.okX sc_InvalidNumber_init (fun vs H Q E h => ?_) fun cdv A outer s H vs Q E hr h => ⟨_, pss_one (ps_ost (pv 0) (pv 1)), initX1 T.x_InvalidNumber.T T.n_InvalidNumber_value rfl h⟩
  obtain ⟨a, w, rfl, _⟩ := h
  rfl
theorem ok_check_prime (T : Txt K mg c fa fd) : FnS c P w K mg base 4 (fa 8) (fd 8) ["p"] m_check_prime := by
  have sc := sc_check_prime
  refine FnS.of T.f_check_prime.F sc fun cdv A outer s H E hr hgd => ?_
  have tk0 := takes_of (X := cxOf (L2.CX P w) P w K mg base ["p"] "check_prime" (defScope s_check_prime) (fa 8) cdv A outer s H E) (E := E) rfl rfl rfl rfl
  have hp0 := passes_of (X := cxOf (L2.CX P w) P w K mg base ["p"] "check_prime" (defScope s_check_prime) (fa 8) cdv A outer s H E) rfl
  exact (SS.one (S1.ite (ST.not (ST.val (SE.call (ok_is_prime T) (hr.mono (by decide)) hgd (by rfl) T.f_is_prime.m T.f_is_prime.F.kp T.f_is_prime.b tk0 (SA.cons (SE.var 0) (SA.cons (SE.globI (by rfl) T.g_MOST_PRIME) SA.nil))))) (SS.one (S1.raise1 T.x_InvalidNumber.T T.x_InvalidNumber.i T.x_InvalidNumber.t (ok_InvalidNumber_init T) (hr.mono (by decide)) T.x_InvalidNumber.b (passes_call tk0 fun _ _ _ _ z => z.elim) (by rfl) T.x_InvalidNumber.m (SA.cons (SE.var 0) SA.nil) rfl tk0)) SS.nil))
theorem ok_is_below (T : Txt K mg c fa fd) : FnS c P w K mg base 2 (fa 4) (fd 4) ["value", "bound"] m_is_below := by
  have sc := sc_is_below
  refine FnS.of T.f_is_below.F sc fun cdv A outer s H E hr hgd => ?_
  have tk0 := takes_of (X := cxOf (L2.CX P w) P w K mg base ["value", "bound"] "is_below" (defScope s_is_below) (fa 4) cdv A outer s H E) (E := E) rfl rfl rfl rfl
  have hp0 := passes_of (X := cxOf (L2.CX P w) P w K mg base ["value", "bound"] "is_below" (defScope s_is_below) (fa 4) cdv A outer s H E) rfl
  exact (SS.one (S1.ret (SE.and (SE.call (ok_is_integer T) (hr.mono (by decide)) hgd (by rfl) T.f_is_integer.m T.f_is_integer.F.kp T.f_is_integer.b tk0 (SA.cons (SE.var 0) SA.nil)) (SE.one (SE.chain op_le op_lt leS ltS SE.int (SE.var 0) (SE.var 1))))))
theorem ok_row_below (T : Txt K mg c fa fd) : FnS c P w K mg base 3 (fa 5) (fd 5) ["value", "length", "bound"] m_row_below := by
  have sc := sc_row_below
  refine FnS.of T.f_row_below.F sc fun cdv A outer s H E hr hgd => ?_
  have tk0 := takes_of (X := cxOf (L2.CX P w) P w K mg base ["value", "length", "bound", "one"] "row_below" (defScope s_row_below) (fa 5) cdv A outer s H E) (E := E) rfl rfl rfl rfl
  have hp0 := passes_of (X := cxOf (L2.CX P w) P w K mg base ["value", "length", "bound", "one"] "row_below" (defScope s_row_below) (fa 5) cdv A outer s H E) rfl
  exact (SS.cons (S1.ite (SW.st (SW.or (ST.not (ST.val (SE.callB call_isiAll (isiS T.tab) (by rfl) T.b_isinstance (by rfl) (SA.cons (SE.var 0) (SA.cons (SE.bty (by rfl) T.b_tuple (by rfl)) SA.nil))))) (SW.or1 (ST.cmp (op_neAll hr.units) neS (SE.callB call_lenAll lenS (by rfl) T.b_len PySem.boot_len (SA.cons (SE.var 0) SA.nil)) (SE.var 1) (nomark _))))) (SS.one (S1.ret SE.bl)) SS.nil)
    (SS.cons (S1.for hp0 rfl (SI.seq (SE.var 0)) (SG.name sc.nd rfl (.inl rfl)) (SS.one (S1.ite (ST.not (ST.val (SE.call (ok_is_below T) (hr.mono (by decide)) hgd (by rfl) T.f_is_below.m T.f_is_below.F.kp T.f_is_below.b tk0 (SA.cons (SE.var 3) (SA.cons (SE.var 2) SA.nil))))) (SS.one (S1.ret SE.bl)) SS.nil)))
    (SS.one (S1.ret SE.bl))))
theorem ok_InvalidMap_init (T : Txt K mg c fa fd) : FnOk P w K mg base (L2.CX P w) 1 (fa 1) (fd 1) ["self", "value"] (spX1 (c 2) "value") := by
  refine T.x_InvalidMap.F.okX sc_InvalidMap_init (fun vs H Q E h => ?_) fun cdv A outer s H vs Q E hr h => ⟨_, pss_one (ps_ost (pv 0) (pv 1)), initX1 T.x_InvalidMap.T T.n_InvalidMap_value rfl h⟩
  obtain ⟨a, w, rfl, _⟩ := h
  rfl
theorem ok_check_table (T : Txt K mg c fa fd) : FnS c P w K mg base 5 (fa 9) (fd 9) ["p", "f"] m_check_table := by
  have sc := sc_check_table
  refine FnS.of T.f_check_table.F sc fun cdv A outer s H E hr hgd => ?_
  have tk0 := takes_of (X := cxOf (L2.CX P w) P w K mg base ["p", "f"] "check_table" (defScope s_check_table) (fa 9) cdv A outer s H E) (E := E) rfl rfl rfl rfl
  have hp0 := passes_of (X := cxOf (L2.CX P w) P w K mg base ["p", "f"] "check_table" (defScope s_check_table) (fa 9) cdv A outer s H E) rfl
  exact (SS.cons (S1.drop (SE.call (ok_check_prime T) (hr.mono (by decide)) hgd (by rfl) T.f_check_prime.m T.f_check_prime.F.kp T.f_check_prime.b tk0 (SA.cons (SE.var 0) SA.nil)))
    (SS.one (S1.ite (ST.not (ST.val (SE.call (ok_row_below T) (hr.mono (by decide)) hgd (by rfl) T.f_row_below.m T.f_row_below.F.kp T.f_row_below.b tk0 (SA.cons (SE.var 1) (SA.cons (SE.var 0) (SA.cons (SE.var 0) SA.nil)))))) (SS.one (S1.raise1 T.x_InvalidMap.T T.x_InvalidMap.i T.x_InvalidMap.t (ok_InvalidMap_init T) (hr.mono (by decide)) T.x_InvalidMap.b (passes_call tk0 fun _ _ _ _ z => z.elim) (by rfl) T.x_InvalidMap.m (SA.cons (SE.var 1) SA.nil) rfl tk0)) SS.nil)))
theorem ok_check_degree (T : Txt K mg c fa fd) : FnS c P w K mg base 6 (fa 10) (fd 10) ["p", "d", "f"] m_check_degree := by
  have sc := sc_check_degree
  refine FnS.of T.f_check_degree.F sc fun cdv A outer s H E hr hgd => ?_
  have tk0 := takes_of (X := cxOf (L2.CX P w) P w K mg base ["p", "d", "f"] "check_degree" (defScope s_check_degree) (fa 10) cdv A outer s H E) (E := E) rfl rfl rfl rfl
  have hp0 := passes_of (X := cxOf (L2.CX P w) P w K mg base ["p", "d", "f"] "check_degree" (defScope s_check_degree) (fa 10) cdv A outer s H E) rfl
  exact (SS.cons (S1.drop (SE.call (ok_check_prime T) (hr.mono (by decide)) hgd (by rfl) T.f_check_prime.m T.f_check_prime.F.kp T.f_check_prime.b tk0 (SA.cons (SE.var 0) SA.nil)))
    (SS.cons (S1.ite (SW.st (SW.or (ST.not (ST.val (SE.call (ok_is_number T) (hr.mono (by decide)) hgd (by rfl) T.f_is_number.m T.f_is_number.F.kp T.f_is_number.b tk0 (SA.cons (SE.var 1) SA.nil)))) (SW.or (ST.cmp op_gt gtS (SE.var 1) (SE.globI (by rfl) T.g_MOST_DEGREE) (nomark _)) (SW.or1 (ST.cmp op_gt gtS (SE.op op_addAll (addS false) (SE.var 1) SE.int) (SE.var 0) (nomark _)))))) (SS.one (S1.raise1 T.x_InvalidNumber.T T.x_InvalidNumber.i T.x_InvalidNumber.t (ok_InvalidNumber_init T) (hr.mono (by decide)) T.x_InvalidNumber.b (passes_call tk0 fun _ _ _ _ z => z.elim) (by rfl) T.x_InvalidNumber.m (SA.cons (SE.var 1) SA.nil) rfl tk0)) SS.nil)
    (SS.one (S1.drop (SE.call (ok_check_table T) (hr.mono (by decide)) hgd (by rfl) T.f_check_table.m T.f_check_table.F.kp T.f_check_table.b tk0 (SA.cons (SE.var 0) (SA.cons (SE.var 2) SA.nil)))))))
theorem ok_times_less (T : Txt K mg c fa fd) : FnS c P w K mg base 1 (fa 17) (fd 17) ["p", "curve", "x"] m_times_less := by
  have sc := sc_times_less
  refine FnS.of T.f_times_less.F sc fun cdv A outer s H E hr hgd => ?_
  have tk0 := takes_of (X := cxOf (L2.CX P w) P w K mg base ["p", "curve", "x", "longer", "place", "number"] "times_less" (defScope s_times_less) (fa 17) cdv A outer s H E) (E := E) rfl rfl rfl rfl
  have hp0 := passes_of (X := cxOf (L2.CX P w) P w K mg base ["p", "curve", "x", "longer", "place", "number"] "times_less" (defScope s_times_less) (fa 17) cdv A outer s H E) rfl
  exact (SS.cons (S1.set sc.nd rfl (.inl rfl) (SE.op op_addAll (addS true) (SE.lst false (SA.cons SE.int SA.nil)) (SE.callTy call_list_of (listS false) (by rfl) T.b_list (by rfl) (SA.cons (SE.var 1) SA.nil))))
    (SS.cons (S1.for hp0 rfl (SI.enum (by rfl) T.b_enumerate (SA.cons (SE.var 1) SA.nil)) (SG.tup rfl (SGs.cons (SG.name sc.nd rfl (.inl rfl)) (SGs.cons (SG.name sc.nd rfl (.inl rfl)) SGs.nil))) (SS.one (S1.asg (SE.op op_mod modS (SE.op op_sub subS (SE.ix (SE.var 3) (SE.var 4)) (SE.op op_mulAll (mulS false) (SE.var 2) (SE.var 5))) (SE.var 0)) (SG.sub (W := WF E) (SE.var 3) (SE.var 4)))))
    (SS.one (S1.ret (SE.frz (SE.var 3))))))
theorem ok_inverse_of (T : Txt K mg c fa fd) : FnS c P w K mg base 1 (fa 16) (fd 16) ["p", "number"] m_inverse_of := by
  have sc := sc_inverse_of
  refine FnS.of T.f_inverse_of.F sc fun cdv A outer s H E hr hgd => ?_
  have tk0 := takes_of (X := cxOf (L2.CX P w) P w K mg base ["p", "number", "other"] "inverse_of" (defScope s_inverse_of) (fa 16) cdv A outer s H E) (E := E) rfl rfl rfl rfl
  have hp0 := passes_of (X := cxOf (L2.CX P w) P w K mg base ["p", "number", "other"] "inverse_of" (defScope s_inverse_of) (fa 16) cdv A outer s H E) rfl
  exact (SS.cons (S1.for hp0 rfl (SI.range2 (by rfl) T.b_range (SA.cons SE.int (SA.cons (SE.var 0) SA.nil))) (SG.name sc.nd rfl (.inl rfl)) (SS.one (S1.ite (ST.cmp (op_eqAll hr.units) eqS (SE.op op_mod modS (SE.op op_mulAll (mulS false) (SE.var 1) (SE.var 2)) (SE.var 0)) SE.int (nomark _)) (SS.one (S1.ret (SE.var 2))) SS.nil)))
    (SS.one (S1.ret SE.int)))
theorem ok_value_of (T : Txt K mg c fa fd) : FnS c P w K mg base 1 (fa 19) (fd 19) ["p", "curve", "x"] m_value_of := by
  have sc := sc_value_of
  refine FnS.of T.f_value_of.F sc fun cdv A outer s H E hr hgd => ?_
  have tk0 := takes_of (X := cxOf (L2.CX P w) P w K mg base ["p", "curve", "x", "total", "number"] "value_of" (defScope s_value_of) (fa 19) cdv A outer s H E) (E := E) rfl rfl rfl rfl
  have hp0 := passes_of (X := cxOf (L2.CX P w) P w K mg base ["p", "curve", "x", "total", "number"] "value_of" (defScope s_value_of) (fa 19) cdv A outer s H E) rfl
  exact (SS.cons (S1.set sc.nd rfl (.inl rfl) SE.int)
    (SS.cons (S1.for hp0 rfl (SI.rev (by rfl) T.b_reversed (SE.var 1)) (SG.name sc.nd rfl (.inl rfl)) (SS.one (S1.set sc.nd rfl (.inl rfl) (SE.op op_mod modS (SE.op op_addAll (addS false) (SE.op op_mulAll (mulS false) (SE.var 3) (SE.var 2)) (SE.var 4)) (SE.var 0)))))
    (SS.one (S1.ret (SE.var 3)))))
theorem ok_curve_through (T : Txt K mg c fa fd) : FnS c P w K mg base 2 (fa 18) (fd 18) ["p", "values"] m_curve_through := by
  have sc := sc_curve_through
  refine FnS.of T.f_curve_through.F sc fun cdv A outer s H E hr hgd => ?_
  have tk0 := takes_of (X := cxOf (L2.CX P w) P w K mg base ["p", "values", "curve", "_", "product", "x", "value", "lack", "place", "number"] "curve_through" (defScope s_curve_through) (fa 18) cdv A outer s H E) (E := E) rfl rfl rfl rfl
  have hp0 := passes_of (X := cxOf (L2.CX P w) P w K mg base ["p", "values", "curve", "_", "product", "x", "value", "lack", "place", "number"] "curve_through" (defScope s_curve_through) (fa 18) cdv A outer s H E) rfl
  exact (SS.cons (S1.setLc (own := [("_", 3)]) true rfl sc.nd rfl rfl (sw_true rfl rfl rfl rfl) (SI.seq (SE.var 1)) (by exact blkOk_by (N := ["p", "values", "curve", "_", "product", "x", "value", "lack", "place", "number"]) (sc := defScope s_curve_through) (by decide +kernel)) (fun _ _ _ _ _ => (SGw.name sc.nd rfl (.inl rfl) (by decide))) (fun _ _ _ _ _ => STs.nil) (fun _ _ _ _ _ => SE.int))
    (SS.cons (S1.set sc.nd rfl (.inl rfl) (SE.lst false (SA.cons SE.int SA.nil)))
    (SS.cons (S1.for hp0 rfl (SI.enum (by rfl) T.b_enumerate (SA.cons (SE.var 1) SA.nil)) (SG.tup rfl (SGs.cons (SG.name sc.nd rfl (.inl rfl)) (SGs.cons (SG.name sc.nd rfl (.inl rfl)) SGs.nil))) (SS.cons (S1.set sc.nd rfl (.inl rfl) (SE.op op_mulAll (mulS false) (SE.op op_sub subS (SE.var 6) (SE.call (ok_value_of T) (hr.mono (by decide)) hgd (by rfl) T.f_value_of.m T.f_value_of.F.kp T.f_value_of.b tk0 (SA.cons (SE.var 0) (SA.cons (SE.var 2) (SA.cons (SE.var 5) SA.nil))))) (SE.call (ok_inverse_of T) (hr.mono (by decide)) hgd (by rfl) T.f_inverse_of.m T.f_inverse_of.F.kp T.f_inverse_of.b tk0 (SA.cons (SE.var 0) (SA.cons (SE.call (ok_value_of T) (hr.mono (by decide)) hgd (by rfl) T.f_value_of.m T.f_value_of.F.kp T.f_value_of.b tk0 (SA.cons (SE.var 0) (SA.cons (SE.var 4) (SA.cons (SE.var 5) SA.nil)))) SA.nil)))))
    (SS.cons (S1.for hp0 rfl (SI.enum (by rfl) T.b_enumerate (SA.cons (SE.var 4) SA.nil)) (SG.tup rfl (SGs.cons (SG.name sc.nd rfl (.inl rfl)) (SGs.cons (SG.name sc.nd rfl (.inl rfl)) SGs.nil))) (SS.one (S1.asg (SE.op op_mod modS (SE.op op_addAll (addS false) (SE.ix (SE.var 2) (SE.var 8)) (SE.op op_mulAll (mulS false) (SE.var 7) (SE.var 9))) (SE.var 0)) (SG.sub (W := WF E) (SE.var 2) (SE.var 8)))))
    (SS.one (S1.set sc.nd rfl (.inl rfl) (SE.call (ok_times_less T) (hr.mono (by decide)) hgd (by rfl) T.f_times_less.m T.f_times_less.F.kp T.f_times_less.b tk0 (SA.cons (SE.var 0) (SA.cons (SE.var 4) (SA.cons (SE.var 5) SA.nil)))))))))
    (SS.one (S1.ret (SE.callTy call_tuple_of tupleS (by rfl) T.b_tuple (by rfl) (SA.cons (SE.var 2) SA.nil)))))))
theorem ok_ways_of (T : Txt K mg c fa fd) : FnS c P w K mg base 1 (fa 6) (fd 6) ["many"] m_ways_of := by
  have sc := sc_ways_of
  refine FnS.of T.f_ways_of.F sc fun cdv A outer s H E hr hgd => ?_
  have tk0 := takes_of (X := cxOf (L2.CX P w) P w K mg base ["many", "found", "_", "one", "other"] "ways_of" (defScope s_ways_of) (fa 6) cdv A outer s H E) (E := E) rfl rfl rfl rfl
  have hp0 := passes_of (X := cxOf (L2.CX P w) P w K mg base ["many", "found", "_", "one", "other"] "ways_of" (defScope s_ways_of) (fa 6) cdv A outer s H E) rfl
  exact (SS.cons (S1.set sc.nd rfl (.inl rfl) (SE.lst false (SA.cons SE.int SA.nil)))
    (SS.cons (S1.for hp0 rfl (SI.range1 (by rfl) T.b_range (SA.cons (SE.var 0) SA.nil)) (SG.name sc.nd rfl (.inl rfl)) (SS.one (S1.set sc.nd rfl (.inl rfl) (SE.op op_addAll (addS false) (SE.op op_addAll (addS false) (SE.lst false (SA.cons SE.int SA.nil)) (SE.lc (own := [("one", 3), ("other", 4)]) false rfl sc.nd (SI.zip (by rfl) T.b_zip (SA.cons (SE.var 1) (SA.cons (SE.sl false (SE.var 1) (SO.some SE.int) SO.none) SA.nil))) (by exact blkOk_by (N := ["many", "found", "_", "one", "other"]) (sc := defScope s_ways_of) (by decide +kernel)) (fun _ _ _ _ _ => (SGw.tup rfl (SGsw.cons (SGw.name sc.nd rfl (.inl rfl) (by decide)) (SGsw.cons (SGw.name sc.nd rfl (.inl rfl) (by decide)) SGsw.nil)))) (fun _ _ _ _ _ => STs.nil) (fun _ _ _ _ _ => (SE.op op_addAll (addS false) (SE.var 3) (SE.var 4))))) (SE.lst false (SA.cons SE.int SA.nil))))))
    (SS.one (S1.ret (SE.var 1)))))
theorem ok_factors_of (T : Txt K mg c fa fd) : FnS c P w K mg base 2 (fa 11) (fd 11) ["d"] m_factors_of := by
  have sc := sc_factors_of
  refine FnS.of T.f_factors_of.F sc fun cdv A outer s H E hr hgd => ?_
  have tk0 := takes_of (X := cxOf (L2.CX P w) P w K mg base ["d", "i", "way"] "factors_of" (defScope s_factors_of) (fa 11) cdv A outer s H E) (E := E) rfl rfl rfl rfl
  have hp0 := passes_of (X := cxOf (L2.CX P w) P w K mg base ["d", "i", "way"] "factors_of" (defScope s_factors_of) (fa 11) cdv A outer s H E) rfl
  exact (SS.one (S1.ret (SE.lc (own := [("i", 1), ("way", 2)]) false rfl sc.nd (SI.enum (by rfl) T.b_enumerate (SA.cons (SE.call (ok_ways_of T) (hr.mono (by decide)) hgd (by rfl) T.f_ways_of.m T.f_ways_of.F.kp T.f_ways_of.b tk0 (SA.cons (SE.op op_addAll (addS false) (SE.var 0) SE.int) SA.nil)) SA.nil)) (by exact blkOk_by (N := ["d", "i", "way"]) (sc := defScope s_factors_of) (by decide +kernel)) (fun _ _ _ _ _ => (SGw.tup rfl (SGsw.cons (SGw.name sc.nd rfl (.inl rfl) (by decide)) (SGsw.cons (SGw.name sc.nd rfl (.inl rfl) (by decide)) SGsw.nil)))) (fun _ _ _ _ _ => STs.nil) (fun _ _ _ _ _ => (SE.ite (ST.cmp (op_eqAll hr.units) eqS (SE.op op_mod modS (SE.var 1) SE.int) SE.int (nomark _)) (SE.var 2) (SE.un un_neg negS (SE.var 2)))))))
theorem ok_step_sum (T : Txt K mg c fa fd) : FnS c P w K mg base 1 (fa 12) (fd 12) ["p", "factors", "f", "x", "h"] m_step_sum := by
  have sc := sc_step_sum
  refine FnS.of T.f_step_sum.F sc fun cdv A outer s H E hr hgd => ?_
  have tk0 := takes_of (X := cxOf (L2.CX P w) P w K mg base ["p", "factors", "f", "x", "h", "i", "factor"] "step_sum" (defScope s_step_sum) (fa 12) cdv A outer s H E) (E := E) rfl rfl rfl rfl
  have hp0 := passes_of (X := cxOf (L2.CX P w) P w K mg base ["p", "factors", "f", "x", "h", "i", "factor"] "step_sum" (defScope s_step_sum) (fa 12) cdv A outer s H E) rfl
  exact (SS.one (S1.ret (SE.op op_mod modS (SE.callB (cr_sumA rfl) sumS (by rfl) T.b_sum (by rfl) (SA.cons (SE.lc (own := [("i", 5), ("factor", 6)]) false rfl sc.nd (SI.enum (by rfl) T.b_enumerate (SA.cons (SE.var 1) SA.nil)) (by exact blkOk_by (N := ["p", "factors", "f", "x", "h", "i", "factor"]) (sc := defScope s_step_sum) (by decide +kernel)) (fun _ _ _ _ _ => (SGw.tup rfl (SGsw.cons (SGw.name sc.nd rfl (.inl rfl) (by decide)) (SGsw.cons (SGw.name sc.nd rfl (.inl rfl) (by decide)) SGsw.nil)))) (fun _ _ _ _ _ => STs.nil) (fun _ _ _ _ _ => (SE.op op_mulAll (mulS false) (SE.var 6) (SE.ix (SE.var 2) (SE.op op_mod modS (SE.op op_addAll (addS false) (SE.var 3) (SE.op op_mulAll (mulS false) (SE.var 5) (SE.var 4))) (SE.var 0)))))) SA.nil)) (SE.var 0))))
theorem ok_step_votes (T : Txt K mg c fa fd) : FnS c P w K mg base 7 (fa 14) (fd 14) ["p", "d", "f", "x"] m_step_votes := by
  have sc := sc_step_votes
  refine FnS.of T.f_step_votes.F sc fun cdv A outer s H E hr hgd => ?_
  have tk0 := takes_of (X := cxOf (L2.CX P w) P w K mg base ["p", "d", "f", "x", "factors", "counts", "_", "h"] "step_votes" (defScope s_step_votes) (fa 14) cdv A outer s H E) (E := E) rfl rfl rfl rfl
  have hp0 := passes_of (X := cxOf (L2.CX P w) P w K mg base ["p", "d", "f", "x", "factors", "counts", "_", "h"] "step_votes" (defScope s_step_votes) (fa 14) cdv A outer s H E) rfl
  exact (SS.cons (S1.drop (SE.call (ok_check_degree T) (hr.mono (by decide)) hgd (by rfl) T.f_check_degree.m T.f_check_degree.F.kp T.f_check_degree.b tk0 (SA.cons (SE.var 0) (SA.cons (SE.var 1) (SA.cons (SE.var 2) SA.nil)))))
    (SS.cons (S1.ite (ST.not (ST.val (SE.call (ok_is_below T) (hr.mono (by decide)) hgd (by rfl) T.f_is_below.m T.f_is_below.F.kp T.f_is_below.b tk0 (SA.cons (SE.var 3) (SA.cons (SE.var 0) SA.nil))))) (SS.one (S1.raise1 T.x_InvalidNumber.T T.x_InvalidNumber.i T.x_InvalidNumber.t (ok_InvalidNumber_init T) (hr.mono (by decide)) T.x_InvalidNumber.b (passes_call tk0 fun _ _ _ _ z => z.elim) (by rfl) T.x_InvalidNumber.m (SA.cons (SE.var 3) SA.nil) rfl tk0)) SS.nil)
    (SS.cons (S1.set sc.nd rfl (.inl rfl) (SE.call (ok_factors_of T) (hr.mono (by decide)) hgd (by rfl) T.f_factors_of.m T.f_factors_of.F.kp T.f_factors_of.b tk0 (SA.cons (SE.var 1) SA.nil)))
    (SS.cons (S1.setLc (own := [("_", 6)]) true rfl sc.nd rfl rfl (sw_true rfl rfl rfl rfl) (SI.range1 (by rfl) T.b_range (SA.cons (SE.var 0) SA.nil)) (by exact blkOk_by (N := ["p", "d", "f", "x", "factors", "counts", "_", "h"]) (sc := defScope s_step_votes) (by decide +kernel)) (fun _ _ _ _ _ => (SGw.name sc.nd rfl (.inl rfl) (by decide))) (fun _ _ _ _ _ => STs.nil) (fun _ _ _ _ _ => SE.int))
    (SS.cons (S1.for hp0 rfl (SI.range1 (by rfl) T.b_range (SA.cons (SE.var 0) SA.nil)) (SG.name sc.nd rfl (.inl rfl)) (SS.one (S1.augS (SE.var 5) (SE.op op_mod modS (SE.op op_sub subS (SE.ix (SE.var 2) (SE.var 3)) (SE.call (ok_step_sum T) (hr.mono (by decide)) hgd (by rfl) T.f_step_sum.m T.f_step_sum.F.kp T.f_step_sum.b tk0 (SA.cons (SE.var 0) (SA.cons (SE.var 4) (SA.cons (SE.var 2) (SA.cons (SE.var 3) (SA.cons (SE.var 7) SA.nil))))))) (SE.var 0)) iop_addI iaddS SE.int)))
    (SS.one (S1.ret (SE.callTy call_tuple_of tupleS (by rfl) T.b_tuple (by rfl) (SA.cons (SE.var 5) SA.nil)))))))))
theorem ok_places_apart (T : Txt K mg c fa fd) : FnS c P w K mg base 2 (fa 20) (fd 20) ["p", "curve", "f"] m_places_apart := by
  have sc := sc_places_apart
  refine FnS.of T.f_places_apart.F sc fun cdv A outer s H E hr hgd => ?_
  have tk0 := takes_of (X := cxOf (L2.CX P w) P w K mg base ["p", "curve", "f", "x"] "places_apart" (defScope s_places_apart) (fa 20) cdv A outer s H E) (E := E) rfl rfl rfl rfl
  have hp0 := passes_of (X := cxOf (L2.CX P w) P w K mg base ["p", "curve", "f", "x"] "places_apart" (defScope s_places_apart) (fa 20) cdv A outer s H E) rfl
  exact (SS.one (S1.ret (SE.callTy call_tuple_of tupleS (by rfl) T.b_tuple (by rfl) (SA.cons (SE.lc (own := [("x", 3)]) false rfl sc.nd (SI.range1 (by rfl) T.b_range (SA.cons (SE.var 0) SA.nil)) (by exact blkOk_by (N := ["p", "curve", "f", "x"]) (sc := defScope s_places_apart) (by decide +kernel)) (fun _ _ _ _ _ => (SGw.name sc.nd rfl (.inl rfl) (by decide))) (fun _ _ _ _ _ => (STs.one (ST.cmp (op_neAll hr.units) neS (SE.call (ok_value_of T) (hr.mono (by decide)) hgd (by rfl) T.f_value_of.m T.f_value_of.F.kp T.f_value_of.b takes0 (SA.cons (SE.var 0) (SA.cons (SE.var 1) (SA.cons (SE.var 3) SA.nil)))) (SE.ix (SE.var 2) (SE.var 3)) (nomark _)))) (fun _ _ _ _ _ => (SE.var 3))) SA.nil))))
theorem ok_close_curve (T : Txt K mg c fa fd) : FnS c P w K mg base 8 (fa 21) (fd 21) ["p", "d", "f"] m_close_curve := by
  have sc := sc_close_curve
  refine FnS.of T.f_close_curve.F sc fun cdv A outer s H E hr hgd => ?_
  have tk0 := takes_of (X := cxOf (L2.CX P w) P w K mg base ["p", "d", "f", "values", "x", "votes", "value", "curve"] "close_curve" (defScope s_close_curve) (fa 21) cdv A outer s H E) (E := E) rfl rfl rfl rfl
  have hp0 := passes_of (X := cxOf (L2.CX P w) P w K mg base ["p", "d", "f", "values", "x", "votes", "value", "curve"] "close_curve" (defScope s_close_curve) (fa 21) cdv A outer s H E) rfl
  exact (SS.cons (S1.drop (SE.call (ok_check_degree T) (hr.mono (by decide)) hgd (by rfl) T.f_check_degree.m T.f_check_degree.F.kp T.f_check_degree.b tk0 (SA.cons (SE.var 0) (SA.cons (SE.var 1) (SA.cons (SE.var 2) SA.nil)))))
    (SS.cons (S1.set sc.nd rfl (.inl rfl) (SE.lst true SA.nil))
    (SS.cons (S1.for hp0 rfl (SI.range1 (by rfl) T.b_range (SA.cons (SE.op op_addAll (addS false) (SE.var 1) SE.int) SA.nil)) (SG.name sc.nd rfl (.inl rfl)) (SS.cons (S1.set sc.nd rfl (.inr rfl) (SE.call (ok_step_votes T) (hr.mono (by decide)) hgd (by rfl) T.f_step_votes.m T.f_step_votes.F.kp T.f_step_votes.b tk0 (SA.cons (SE.var 0) (SA.cons (SE.var 1) (SA.cons (SE.var 2) (SA.cons (SE.var 4) SA.nil))))))
    (SS.one (S1.drop (SE.lm PySem.F.slot_list_append PySem.F.type_list_append mt_append appendS (SE.var 3) (SA.cons (SE.ix (SE.lc (own := [("value", 6)]) false rfl sc.nd (SI.range1 (by rfl) T.b_range (SA.cons (SE.var 0) SA.nil)) (by exact blkOk_by (N := ["p", "d", "f", "values", "x", "votes", "value", "curve"]) (sc := defScope s_close_curve) (by decide +kernel)) (fun _ _ _ _ _ => (SGw.name sc.nd rfl (.inl rfl) (by decide))) (fun _ _ _ _ _ => (STs.one (ST.cmp (op_eqAll hr.units) eqS (SE.ix (SE.var 5) (SE.var 6)) (SE.callB (call_maxAll rfl) maxS (by rfl) T.b_max (by rfl) (SA.cons (SE.var 5) SA.nil)) (nomark _)))) (fun _ _ _ _ _ => (SE.var 6))) SE.int) SA.nil))))))
    (SS.cons (S1.set sc.nd rfl (.inl rfl) (SE.call (ok_curve_through T) (hr.mono (by decide)) hgd (by rfl) T.f_curve_through.m T.f_curve_through.F.kp T.f_curve_through.b tk0 (SA.cons (SE.var 0) (SA.cons (SE.var 3) SA.nil))))
    (SS.one (S1.ret (SE.ite (ST.cmp op_lt ltS (SE.op op_mulAll (mulS false) (SE.op op_mulAll (mulS false) SE.int (SE.op op_addAll (addS false) (SE.var 1) SE.int)) (SE.callB call_lenAll lenS (by rfl) T.b_len PySem.boot_len (SA.cons (SE.call (ok_places_apart T) (hr.mono (by decide)) hgd (by rfl) T.f_places_apart.m T.f_places_apart.F.kp T.f_places_apart.b tk0 (SA.cons (SE.var 0) (SA.cons (SE.var 7) (SA.cons (SE.var 2) SA.nil)))) SA.nil))) (SE.var 0) (nomark _)) (SE.var 7) SE.non)))))))
theorem ok__law_is_small (T : Txt K mg c fa fd) : FnS c P w K mg base 9 (fa 35) (fd 35) ["_law_hand"] m__law_is_small := by
  have sc := sc__law_is_small
  refine FnS.of T.f__law_is_small.F sc fun cdv A outer s H E hr hgd => ?_
  have tk0 := takes_of (X := cxOf (L2.CX P w) P w K mg base ["_law_hand", "_law_p", "_law_d", "_law_f", "_law_x", "_law_curve_here", "_law_found", "_law_due"] "_law_is_small" (defScope s__law_is_small) (fa 35) cdv A outer s H E) (E := E) rfl rfl rfl rfl
  have hp0 := passes_of (X := cxOf (L2.CX P w) P w K mg base ["_law_hand", "_law_p", "_law_d", "_law_f", "_law_x", "_law_curve_here", "_law_found", "_law_due"] "_law_is_small" (defScope s__law_is_small) (fa 35) cdv A outer s H E) rfl
  exact (SS.cons (S1.set sc.nd rfl (.inr rfl) (SE.call (ok__law_prime T) (hr.mono (by decide)) hgd (by rfl) T.f__law_prime.m T.f__law_prime.F.kp T.f__law_prime.b tk0 (SA.cons (SE.var 0) (SA.cons SE.int SA.nil))))
    (SS.cons (S1.set sc.nd rfl (.inl rfl) (SE.call (ok__law_take T) (hr.mono (by decide)) hgd (by rfl) T.f__law_take.m T.f__law_take.F.kp T.f__law_take.b tk0 (SA.cons (SE.var 0) (SA.cons (SE.callB (call_minAll rfl) minS (by rfl) T.b_min (by rfl) (SA.cons SE.int (SA.cons (SE.op op_sub subS (SE.var 1) SE.int) SA.nil))) SA.nil))))
    (SS.cons (S1.set sc.nd rfl (.inl rfl) (SE.callTy call_tuple_of tupleS (by rfl) T.b_tuple (by rfl) (SA.cons (SE.lc (own := [("_law_x", 4)]) false rfl sc.nd (SI.range1 (by rfl) T.b_range (SA.cons (SE.var 1) SA.nil)) (by exact blkOk_by (N := ["_law_hand", "_law_p", "_law_d", "_law_f", "_law_x", "_law_curve_here", "_law_found", "_law_due"]) (sc := defScope s__law_is_small) (by decide +kernel)) (fun _ _ _ _ _ => (SGw.name sc.nd rfl (.inl rfl) (by decide))) (fun _ _ _ _ _ => STs.nil) (fun _ _ _ _ _ => (SE.call (ok__law_take T) (hr.mono (by decide)) hgd (by rfl) T.f__law_take.m T.f__law_take.F.kp T.f__law_take.b takes0 (SA.cons (SE.var 0) (SA.cons (SE.var 1) SA.nil))))) SA.nil)))
    (SS.cons (S1.ite (ST.cmp (op_eqAll hr.units) eqS (SE.call (ok__law_take T) (hr.mono (by decide)) hgd (by rfl) T.f__law_take.m T.f__law_take.F.kp T.f__law_take.b tk0 (SA.cons (SE.var 0) (SA.cons SE.int SA.nil))) SE.int (nomark _)) (SS.cons (S1.set sc.nd rfl (.inr rfl) (SE.call (ok__law_curve T) (hr.mono (by decide)) hgd (by rfl) T.f__law_curve.m T.f__law_curve.F.kp T.f__law_curve.b tk0 (SA.cons (SE.var 0) (SA.cons (SE.var 1) (SA.cons (SE.var 2) SA.nil)))))
    (SS.cons (S1.set sc.nd rfl (.inl rfl) (SE.callTy call_tuple_of tupleS (by rfl) T.b_tuple (by rfl) (SA.cons (SE.lc (own := [("_law_x", 4)]) false rfl sc.nd (SI.range1 (by rfl) T.b_range (SA.cons (SE.var 1) SA.nil)) (by exact blkOk_by (N := ["_law_hand", "_law_p", "_law_d", "_law_f", "_law_x", "_law_curve_here", "_law_found", "_law_due"]) (sc := defScope s__law_is_small) (by decide +kernel)) (fun _ _ _ _ _ => (SGw.name sc.nd rfl (.inl rfl) (by decide))) (fun _ _ _ _ _ => STs.nil) (fun _ _ _ _ _ => (SE.call (ok__law_value T) (hr.mono (by decide)) hgd (by rfl) T.f__law_value.m T.f__law_value.F.kp T.f__law_value.b takes0 (SA.cons (SE.var 1) (SA.cons (SE.var 5) (SA.cons (SE.var 4) SA.nil)))))) SA.nil)))
    (SS.one (S1.set sc.nd rfl (.inl rfl) (SE.call (ok__law_turned T) (hr.mono (by decide)) hgd (by rfl) T.f__law_turned.m T.f__law_turned.F.kp T.f__law_turned.b tk0 (SA.cons (SE.var 0) (SA.cons (SE.var 1) (SA.cons (SE.var 3) (SA.cons (SE.call (ok__law_take T) (hr.mono (by decide)) hgd (by rfl) T.f__law_take.m T.f__law_take.F.kp T.f__law_take.b tk0 (SA.cons (SE.var 0) (SA.cons SE.int SA.nil))) SA.nil))))))))) SS.nil)
    (SS.cons (S1.set sc.nd rfl (.inl rfl) (SE.call (ok__law_near T) (hr.mono (by decide)) hgd (by rfl) T.f__law_near.m T.f__law_near.F.kp T.f__law_near.b tk0 (SA.cons (SE.var 1) (SA.cons (SE.var 2) (SA.cons (SE.var 3) SA.nil)))))
    (SS.cons (S1.set sc.nd rfl (.inl rfl) SE.non)
    (SS.cons (S1.ite (ST.cmp op_gt gtS (SE.callB call_lenAll lenS (by rfl) T.b_len PySem.boot_len (SA.cons (SE.var 6) SA.nil)) SE.int (nomark _)) (SS.one (S1.set sc.nd rfl (.inl rfl) (SE.ix (SE.var 6) SE.int))) SS.nil)
    (SS.one (S1.ret (SE.and (SE.cmp op_lt ltS (SE.callB call_lenAll lenS (by rfl) T.b_len PySem.boot_len (SA.cons (SE.var 6) SA.nil)) SE.int (nomark _)) (SE.one (SE.cmp (op_eqAll hr.units) eqS (SE.callB (call_reprD hgd hr.units) reprS (by rfl) T.b_repr (by rfl) (SA.cons (SE.call (ok_close_curve T) (hr.mono (by decide)) hgd (by rfl) T.f_close_curve.m T.f_close_curve.F.kp T.f_close_curve.b tk0 (SA.cons (SE.var 1) (SA.cons (SE.var 2) (SA.cons (SE.var 3) SA.nil)))) SA.nil)) (SE.callB (call_reprD hgd hr.units) reprS (by rfl) T.b_repr (by rfl) (SA.cons (SE.var 7) SA.nil)) (nomark _)))))))))))))
theorem ok__law_draws (T : Txt K mg c fa fd) : FnS c P w K mg base 1 (fa 25) (fd 25) ["_law_script", "_law_many"] m__law_draws := by
  have sc := sc__law_draws
  refine FnS.of T.f__law_draws.F sc fun cdv A outer s H E hr hgd => ?_
  have tk0 := takes_of (X := cxOf (L2.CX P w) P w K mg base ["_law_script", "_law_many", "_law_rests", "_law_cell", "_law_draws_here", "_law_k", "_law_at", "_law_mixed"] "_law_draws" (defScope s__law_draws) (fa 25) cdv A outer s H E) (E := E) rfl rfl rfl rfl
  have hp0 := passes_of (X := cxOf (L2.CX P w) P w K mg base ["_law_script", "_law_many", "_law_rests", "_law_cell", "_law_draws_here", "_law_k", "_law_at", "_law_mixed"] "_law_draws" (defScope s__law_draws) (fa 25) cdv A outer s H E) rfl
  exact (SS.cons (S1.setLc (own := [("_law_cell", 3)]) true rfl sc.nd rfl rfl (sw_true rfl rfl rfl rfl) (SI.seq (SE.var 0)) (by exact blkOk_by (N := ["_law_script", "_law_many", "_law_rests", "_law_cell", "_law_draws_here", "_law_k", "_law_at", "_law_mixed"]) (sc := defScope s__law_draws) (by decide +kernel)) (fun _ _ _ _ _ => (SGw.name sc.nd rfl (.inl rfl) (by decide))) (fun _ _ _ _ _ => STs.nil) (fun _ _ _ _ _ => (SE.callB call_abs absS (by rfl) T.b_abs (by rfl) (SA.cons (SE.callTy call_intAll intS (by rfl) T.b_int (by rfl) (SA.cons (SE.var 3) SA.nil)) SA.nil))))
    (SS.cons (S1.set sc.nd rfl (.inl rfl) (SE.lst true SA.nil))
    (SS.cons (S1.for hp0 rfl (SI.range1 (by rfl) T.b_range (SA.cons (SE.var 1) SA.nil)) (SG.name sc.nd rfl (.inl rfl)) (SS.cons (S1.set sc.nd rfl (.inl rfl) (SE.var 5))
    (SS.cons (S1.ite (ST.cmp op_gt gtS (SE.callB call_lenAll lenS (by rfl) T.b_len PySem.boot_len (SA.cons (SE.var 0) SA.nil)) SE.int (nomark _)) (SS.cons (S1.set sc.nd rfl (.inl rfl) (SE.op op_mod modS (SE.var 5) (SE.callB call_lenAll lenS (by rfl) T.b_len PySem.boot_len (SA.cons (SE.var 0) SA.nil))))
    (SS.cons (S1.set sc.nd rfl (.inl rfl) (SE.callTy call_intAll intS (by rfl) T.b_int (by rfl) (SA.cons (SE.ix (SE.var 0) (SE.var 6)) SA.nil)))
    (SS.one (S1.ite (SW.st (SW.and (ST.cmp op_ge geS (SE.var 3) (SE.op op_pow powS SE.int SE.int) (nomark _)) (SW.and1 (ST.cmp op_gt gtS (SE.ix (SE.var 2) (SE.var 6)) SE.int (nomark _))))) (SS.cons (S1.drop (SE.lm PySem.F.slot_list_append PySem.F.type_list_append mt_append appendS (SE.var 4) (SA.cons (SE.op op_mod modS (SE.callTy call_intAll intS (by rfl) T.b_int (by rfl) (SA.cons (SE.ix (SE.var 2) (SE.var 6)) SA.nil)) SE.int) SA.nil)))
    (SS.cons (S1.asg (SE.op op_div divS (SE.callTy call_intAll intS (by rfl) T.b_int (by rfl) (SA.cons (SE.ix (SE.var 2) (SE.var 6)) SA.nil)) SE.int) (SG.sub (W := WF E) (SE.var 2) (SE.var 6)))
    (SS.one S1.cnt))) SS.nil)))) SS.nil)
    (SS.cons (S1.set sc.nd rfl (.inl rfl) (SE.op op_mod modS (SE.callTy call_intAll intS (by rfl) T.b_int (by rfl) (SA.cons (SE.op op_addAll (addS false) (SE.op op_addAll (addS false) (SE.op op_mulAll (mulS false) (SE.var 3) SE.int) (SE.op op_mulAll (mulS false) (SE.var 5) SE.int)) SE.int) SA.nil)) SE.int))
    (SS.cons (S1.set sc.nd rfl (.inl rfl) (SE.op op_mod modS (SE.callTy call_intAll intS (by rfl) T.b_int (by rfl) (SA.cons (SE.op op_addAll (addS false) (SE.op op_div divS (SE.op op_mulAll (mulS false) (SE.var 7) (SE.var 7)) SE.int) (SE.var 7)) SA.nil)) SE.int))
    (SS.one (S1.drop (SE.lm PySem.F.slot_list_append PySem.F.type_list_append mt_append appendS (SE.var 4) (SA.cons (SE.op op_mod modS (SE.callTy call_intAll intS (by rfl) T.b_int (by rfl) (SA.cons (SE.op op_addAll (addS false) (SE.op op_div divS (SE.op op_mulAll (mulS false) (SE.var 7) (SE.var 7)) SE.int) (SE.op op_mulAll (mulS false) (SE.var 5) SE.int)) SA.nil)) SE.int) SA.nil)))))))))
    (SS.one (S1.ret (SE.frz (SE.var 4)))))))
theorem ok_broken_steps (T : Txt K mg c fa fd) : FnS c P w K mg base 7 (fa 13) (fd 13) ["p", "d", "f"] m_broken_steps := by
  have sc := sc_broken_steps
  refine FnS.of T.f_broken_steps.F sc fun cdv A outer s H E hr hgd => ?_
  have tk0 := takes_of (X := cxOf (L2.CX P w) P w K mg base ["p", "d", "f", "factors", "many", "x", "h"] "broken_steps" (defScope s_broken_steps) (fa 13) cdv A outer s H E) (E := E) rfl rfl rfl rfl
  have hp0 := passes_of (X := cxOf (L2.CX P w) P w K mg base ["p", "d", "f", "factors", "many", "x", "h"] "broken_steps" (defScope s_broken_steps) (fa 13) cdv A outer s H E) rfl
  exact (SS.cons (S1.drop (SE.call (ok_check_degree T) (hr.mono (by decide)) hgd (by rfl) T.f_check_degree.m T.f_check_degree.F.kp T.f_check_degree.b tk0 (SA.cons (SE.var 0) (SA.cons (SE.var 1) (SA.cons (SE.var 2) SA.nil)))))
    (SS.cons (S1.set sc.nd rfl (.inr rfl) (SE.call (ok_factors_of T) (hr.mono (by decide)) hgd (by rfl) T.f_factors_of.m T.f_factors_of.F.kp T.f_factors_of.b tk0 (SA.cons (SE.var 1) SA.nil)))
    (SS.cons (S1.set sc.nd rfl (.inl rfl) SE.int)
    (SS.cons (S1.for hp0 rfl (SI.range1 (by rfl) T.b_range (SA.cons (SE.var 0) SA.nil)) (SG.name sc.nd rfl (.inr rfl)) (SS.one (S1.aug sc.nd rfl (.inl rfl) iop_addI iaddS (SE.callB call_lenAll lenS (by rfl) T.b_len PySem.boot_len (SA.cons (SE.lc (own := [("h", 6)]) false rfl sc.nd (SI.range1 (by rfl) T.b_range (SA.cons (SE.var 0) SA.nil)) (by exact blkOk_by (N := ["p", "d", "f", "factors", "many", "x", "h"]) (sc := defScope s_broken_steps) (by decide +kernel)) (fun _ _ _ _ _ => (SGw.name sc.nd rfl (.inl rfl) (by decide))) (fun _ _ _ _ _ => (STs.one (ST.cmp (op_neAll hr.units) neS (SE.call (ok_step_sum T) (hr.mono (by decide)) hgd (by rfl) T.f_step_sum.m T.f_step_sum.F.kp T.f_step_sum.b takes0 (SA.cons (SE.var 0) (SA.cons (SE.var 3) (SA.cons (SE.var 2) (SA.cons (SE.var 5) (SA.cons (SE.var 6) SA.nil)))))) SE.int (nomark _)))) (fun _ _ _ _ _ => (SE.var 6))) SA.nil)))))
    (SS.one (S1.ret (SE.var 4)))))))
theorem ok_is_near (T : Txt K mg c fa fd) : FnS c P w K mg base 8 (fa 15) (fd 15) ["p", "d", "f"] m_is_near := by
  have sc := sc_is_near
  refine FnS.of T.f_is_near.F sc fun cdv A outer s H E hr hgd => ?_
  have tk0 := takes_of (X := cxOf (L2.CX P w) P w K mg base ["p", "d", "f"] "is_near" (defScope s_is_near) (fa 15) cdv A outer s H E) (E := E) rfl rfl rfl rfl
  have hp0 := passes_of (X := cxOf (L2.CX P w) P w K mg base ["p", "d", "f"] "is_near" (defScope s_is_near) (fa 15) cdv A outer s H E) rfl
  exact (SS.one (S1.ret (SE.cmp op_lt ltS (SE.op op_mulAll (mulS false) (SE.op op_mulAll (mulS false) (SE.op op_mulAll (mulS false) (SE.call (ok_broken_steps T) (hr.mono (by decide)) hgd (by rfl) T.f_broken_steps.m T.f_broken_steps.F.kp T.f_broken_steps.b tk0 (SA.cons (SE.var 0) (SA.cons (SE.var 1) (SA.cons (SE.var 2) SA.nil)))) (SE.op op_addAll (addS false) (SE.var 1) SE.int)) (SE.op op_addAll (addS false) (SE.var 1) SE.int)) (SE.op op_addAll (addS false) (SE.var 1) SE.int)) (SE.op op_mulAll (mulS false) (SE.op op_mulAll (mulS false) (SE.op op_addAll (addS false) (SE.var 1) SE.int) (SE.var 0)) (SE.var 0)) (nomark _))))
theorem ok_is_curve (T : Txt K mg c fa fd) : FnS c P w K mg base 4 (fa 22) (fd 22) ["p", "value"] m_is_curve := by
  have sc := sc_is_curve
  refine FnS.of T.f_is_curve.F sc fun cdv A outer s H E hr hgd => ?_
  have tk0 := takes_of (X := cxOf (L2.CX P w) P w K mg base ["p", "value"] "is_curve" (defScope s_is_curve) (fa 22) cdv A outer s H E) (E := E) rfl rfl rfl rfl
  have hp0 := passes_of (X := cxOf (L2.CX P w) P w K mg base ["p", "value"] "is_curve" (defScope s_is_curve) (fa 22) cdv A outer s H E) rfl
  exact (SS.one (S1.ret (SE.and (SE.callB call_isiAll (isiS T.tab) (by rfl) T.b_isinstance (by rfl) (SA.cons (SE.var 1) (SA.cons (SE.bty (by rfl) T.b_tuple (by rfl)) SA.nil))) (SE.and (SE.chain op_le op_le leS leS SE.int (SE.callB call_lenAll lenS (by rfl) T.b_len PySem.boot_len (SA.cons (SE.var 1) SA.nil)) (SE.globI (by rfl) T.g_MOST_NUMBERS)) (SE.one (SE.call (ok_row_below T) (hr.mono (by decide)) hgd (by rfl) T.f_row_below.m T.f_row_below.F.kp T.f_row_below.b tk0 (SA.cons (SE.var 1) (SA.cons (SE.callB call_lenAll lenS (by rfl) T.b_len PySem.boot_len (SA.cons (SE.var 1) SA.nil)) (SA.cons (SE.var 0) SA.nil)))))))))
theorem ok_value_at (T : Txt K mg c fa fd) : FnS c P w K mg base 5 (fa 23) (fd 23) ["p", "curve", "x"] m_value_at := by
  have sc := sc_value_at
  refine FnS.of T.f_value_at.F sc fun cdv A outer s H E hr hgd => ?_
  have tk0 := takes_of (X := cxOf (L2.CX P w) P w K mg base ["p", "curve", "x"] "value_at" (defScope s_value_at) (fa 23) cdv A outer s H E) (E := E) rfl rfl rfl rfl
  have hp0 := passes_of (X := cxOf (L2.CX P w) P w K mg base ["p", "curve", "x"] "value_at" (defScope s_value_at) (fa 23) cdv A outer s H E) rfl
  exact (SS.cons (S1.drop (SE.call (ok_check_prime T) (hr.mono (by decide)) hgd (by rfl) T.f_check_prime.m T.f_check_prime.F.kp T.f_check_prime.b tk0 (SA.cons (SE.var 0) SA.nil)))
    (SS.cons (S1.ite (ST.not (ST.val (SE.call (ok_is_curve T) (hr.mono (by decide)) hgd (by rfl) T.f_is_curve.m T.f_is_curve.F.kp T.f_is_curve.b tk0 (SA.cons (SE.var 0) (SA.cons (SE.var 1) SA.nil))))) (SS.one (S1.raise1 T.x_InvalidMap.T T.x_InvalidMap.i T.x_InvalidMap.t (ok_InvalidMap_init T) (hr.mono (by decide)) T.x_InvalidMap.b (passes_call tk0 fun _ _ _ _ z => z.elim) (by rfl) T.x_InvalidMap.m (SA.cons (SE.var 1) SA.nil) rfl tk0)) SS.nil)
    (SS.cons (S1.ite (ST.not (ST.val (SE.call (ok_is_below T) (hr.mono (by decide)) hgd (by rfl) T.f_is_below.m T.f_is_below.F.kp T.f_is_below.b tk0 (SA.cons (SE.var 2) (SA.cons (SE.var 0) SA.nil))))) (SS.one (S1.raise1 T.x_InvalidNumber.T T.x_InvalidNumber.i T.x_InvalidNumber.t (ok_InvalidNumber_init T) (hr.mono (by decide)) T.x_InvalidNumber.b (passes_call tk0 fun _ _ _ _ z => z.elim) (by rfl) T.x_InvalidNumber.m (SA.cons (SE.var 2) SA.nil) rfl tk0)) SS.nil)
    (SS.one (S1.ret (SE.call (ok_value_of T) (hr.mono (by decide)) hgd (by rfl) T.f_value_of.m T.f_value_of.F.kp T.f_value_of.b tk0 (SA.cons (SE.var 0) (SA.cons (SE.var 1) (SA.cons (SE.var 2) SA.nil)))))))))
theorem ok__law_steps (T : Txt K mg c fa fd) : FnS c P w K mg base 1 (fa 31) (fd 31) ["_law_d"] m__law_steps := by
  have sc := sc__law_steps
  refine FnS.of T.f__law_steps.F sc fun cdv A outer s H E hr hgd => ?_
  have tk0 := takes_of (X := cxOf (L2.CX P w) P w K mg base ["_law_d", "_law_row", "_law_k", "_law_x", "_law_y"] "_law_steps" (defScope s__law_steps) (fa 31) cdv A outer s H E) (E := E) rfl rfl rfl rfl
  have hp0 := passes_of (X := cxOf (L2.CX P w) P w K mg base ["_law_d", "_law_row", "_law_k", "_law_x", "_law_y"] "_law_steps" (defScope s__law_steps) (fa 31) cdv A outer s H E) rfl
  exact (SS.cons (S1.set sc.nd rfl (.inl rfl) (SE.lst false (SA.cons SE.int SA.nil)))
    (SS.cons (S1.for hp0 rfl (SI.range1 (by rfl) T.b_range (SA.cons (SE.op op_addAll (addS false) (SE.var 0) SE.int) SA.nil)) (SG.name sc.nd rfl (.inl rfl)) (SS.one (S1.setLc (own := [("_law_x", 3), ("_law_y", 4)]) false rfl sc.nd rfl rfl (sw_true rfl rfl rfl rfl) (SI.zip (by rfl) T.b_zip (SA.cons (SE.op op_addAll (addS false) (SE.var 1) (SE.lst false (SA.cons SE.int SA.nil))) (SA.cons (SE.op op_addAll (addS false) (SE.lst false (SA.cons SE.int SA.nil)) (SE.var 1)) SA.nil))) (by exact blkOk_by (N := ["_law_d", "_law_row", "_law_k", "_law_x", "_law_y"]) (sc := defScope s__law_steps) (by decide +kernel)) (fun _ _ _ _ _ => (SGw.tup rfl (SGsw.cons (SGw.name sc.nd rfl (.inl rfl) (by decide)) (SGsw.cons (SGw.name sc.nd rfl (.inl rfl) (by decide)) SGsw.nil)))) (fun _ _ _ _ _ => STs.nil) (fun _ _ _ _ _ => (SE.op op_sub subS (SE.var 3) (SE.var 4))))))
    (SS.one (S1.ret (SE.var 1)))))
theorem ok__law_votes (T : Txt K mg c fa fd) : FnS c P w K mg base 2 (fa 33) (fd 33) ["_law_p", "_law_d", "_law_f", "_law_x"] m__law_votes := by
  have sc := sc__law_votes
  refine FnS.of T.f__law_votes.F sc fun cdv A outer s H E hr hgd => ?_
  have tk0 := takes_of (X := cxOf (L2.CX P w) P w K mg base ["_law_p", "_law_d", "_law_f", "_law_x", "_law_row", "_law_found", "_law_v", "_law_h", "_law_i"] "_law_votes" (defScope s__law_votes) (fa 33) cdv A outer s H E) (E := E) rfl rfl rfl rfl
  have hp0 := passes_of (X := cxOf (L2.CX P w) P w K mg base ["_law_p", "_law_d", "_law_f", "_law_x", "_law_row", "_law_found", "_law_v", "_law_h", "_law_i"] "_law_votes" (defScope s__law_votes) (fa 33) cdv A outer s H E) rfl
  exact (SS.cons (S1.set sc.nd rfl (.inr rfl) (SE.call (ok__law_steps T) (hr.mono (by decide)) hgd (by rfl) T.f__law_steps.m T.f__law_steps.F.kp T.f__law_steps.b tk0 (SA.cons (SE.var 1) SA.nil)))
    (SS.cons (S1.setLc (own := [("_law_v", 6)]) true rfl sc.nd rfl rfl (sw_true rfl rfl rfl rfl) (SI.range1 (by rfl) T.b_range (SA.cons (SE.var 0) SA.nil)) (by exact blkOk_by (N := ["_law_p", "_law_d", "_law_f", "_law_x", "_law_row", "_law_found", "_law_v", "_law_h", "_law_i"]) (sc := defScope s__law_votes) (by decide +kernel)) (fun _ _ _ _ _ => (SGw.name sc.nd rfl (.inl rfl) (by decide))) (fun _ _ _ _ _ => STs.nil) (fun _ _ _ _ _ => SE.int))
    (SS.cons (S1.for hp0 rfl (SI.range1 (by rfl) T.b_range (SA.cons (SE.var 0) SA.nil)) (SG.name sc.nd rfl (.inr rfl)) (SS.cons (S1.set sc.nd rfl (.inl rfl) (SE.op op_mod modS (SE.callTy call_intAll intS (by rfl) T.b_int (by rfl) (SA.cons (SE.un un_neg negS (SE.callB (cr_sumA rfl) sumS (by rfl) T.b_sum (by rfl) (SA.cons (SE.lc (own := [("_law_i", 8)]) false rfl sc.nd (SI.range2 (by rfl) T.b_range (SA.cons SE.int (SA.cons (SE.op op_addAll (addS false) (SE.var 1) SE.int) SA.nil))) (by exact blkOk_by (N := ["_law_p", "_law_d", "_law_f", "_law_x", "_law_row", "_law_found", "_law_v", "_law_h", "_law_i"]) (sc := defScope s__law_votes) (by decide +kernel)) (fun _ _ _ _ _ => (SGw.name sc.nd rfl (.inl rfl) (by decide))) (fun _ _ _ _ _ => STs.nil) (fun _ _ _ _ _ => (SE.op op_mulAll (mulS false) (SE.ix (SE.var 4) (SE.var 8)) (SE.ix (SE.var 2) (SE.op op_mod modS (SE.callTy call_intAll intS (by rfl) T.b_int (by rfl) (SA.cons (SE.op op_addAll (addS false) (SE.var 3) (SE.op op_mulAll (mulS false) (SE.var 8) (SE.var 7))) SA.nil)) (SE.var 0)))))) SA.nil))) SA.nil)) (SE.var 0)))
    (SS.one (S1.asg (SE.op op_addAll (addS false) (SE.ix (SE.var 5) (SE.var 6)) SE.int) (SG.sub (W := WF E) (SE.var 5) (SE.var 6))))))
    (SS.one (S1.ret (SE.frz (SE.var 5)))))))
theorem ok_wrong_on (T : Txt K mg c fa fd) : FnS c P w K mg base 5 (fa 24) (fd 24) ["p", "curve", "f"] m_wrong_on := by
  have sc := sc_wrong_on
  refine FnS.of T.f_wrong_on.F sc fun cdv A outer s H E hr hgd => ?_
  have tk0 := takes_of (X := cxOf (L2.CX P w) P w K mg base ["p", "curve", "f"] "wrong_on" (defScope s_wrong_on) (fa 24) cdv A outer s H E) (E := E) rfl rfl rfl rfl
  have hp0 := passes_of (X := cxOf (L2.CX P w) P w K mg base ["p", "curve", "f"] "wrong_on" (defScope s_wrong_on) (fa 24) cdv A outer s H E) rfl
  exact (SS.cons (S1.drop (SE.call (ok_check_prime T) (hr.mono (by decide)) hgd (by rfl) T.f_check_prime.m T.f_check_prime.F.kp T.f_check_prime.b tk0 (SA.cons (SE.var 0) SA.nil)))
    (SS.cons (S1.ite (ST.not (ST.val (SE.call (ok_is_curve T) (hr.mono (by decide)) hgd (by rfl) T.f_is_curve.m T.f_is_curve.F.kp T.f_is_curve.b tk0 (SA.cons (SE.var 0) (SA.cons (SE.var 1) SA.nil))))) (SS.one (S1.raise1 T.x_InvalidMap.T T.x_InvalidMap.i T.x_InvalidMap.t (ok_InvalidMap_init T) (hr.mono (by decide)) T.x_InvalidMap.b (passes_call tk0 fun _ _ _ _ z => z.elim) (by rfl) T.x_InvalidMap.m (SA.cons (SE.var 1) SA.nil) rfl tk0)) SS.nil)
    (SS.cons (S1.ite (ST.not (ST.val (SE.call (ok_row_below T) (hr.mono (by decide)) hgd (by rfl) T.f_row_below.m T.f_row_below.F.kp T.f_row_below.b tk0 (SA.cons (SE.var 2) (SA.cons (SE.var 0) (SA.cons (SE.var 0) SA.nil)))))) (SS.one (S1.raise1 T.x_InvalidMap.T T.x_InvalidMap.i T.x_InvalidMap.t (ok_InvalidMap_init T) (hr.mono (by decide)) T.x_InvalidMap.b (passes_call tk0 fun _ _ _ _ z => z.elim) (by rfl) T.x_InvalidMap.m (SA.cons (SE.var 2) SA.nil) rfl tk0)) SS.nil)
    (SS.one (S1.ret (SE.call (ok_places_apart T) (hr.mono (by decide)) hgd (by rfl) T.f_places_apart.m T.f_places_apart.F.kp T.f_places_apart.b tk0 (SA.cons (SE.var 0) (SA.cons (SE.var 1) (SA.cons (SE.var 2) SA.nil)))))))))
theorem ok__law_broken (T : Txt K mg c fa fd) : FnS c P w K mg base 2 (fa 32) (fd 32) ["_law_p", "_law_d", "_law_f"] m__law_broken := by
  have sc := sc__law_broken
  refine FnS.of T.f__law_broken.F sc fun cdv A outer s H E hr hgd => ?_
  have tk0 := takes_of (X := cxOf (L2.CX P w) P w K mg base ["_law_p", "_law_d", "_law_f", "_law_total", "_law_row", "_law_x", "_law_h", "_law_one", "_law_i"] "_law_broken" (defScope s__law_broken) (fa 32) cdv A outer s H E) (E := E) rfl rfl rfl rfl
  have hp0 := passes_of (X := cxOf (L2.CX P w) P w K mg base ["_law_p", "_law_d", "_law_f", "_law_total", "_law_row", "_law_x", "_law_h", "_law_one", "_law_i"] "_law_broken" (defScope s__law_broken) (fa 32) cdv A outer s H E) rfl
  exact (SS.cons (S1.set sc.nd rfl (.inl rfl) SE.int)
    (SS.cons (S1.set sc.nd rfl (.inr rfl) (SE.call (ok__law_steps T) (hr.mono (by decide)) hgd (by rfl) T.f__law_steps.m T.f__law_steps.F.kp T.f__law_steps.b tk0 (SA.cons (SE.var 1) SA.nil)))
    (SS.cons (S1.for hp0 rfl (SI.range1 (by rfl) T.b_range (SA.cons (SE.var 0) SA.nil)) (SG.name sc.nd rfl (.inr rfl)) (SS.one (S1.for hp0 rfl (SI.range1 (by rfl) T.b_range (SA.cons (SE.var 0) SA.nil)) (SG.name sc.nd rfl (.inr rfl)) (SS.cons (S1.set sc.nd rfl (.inl rfl) (SE.callB (cr_sumA rfl) sumS (by rfl) T.b_sum (by rfl) (SA.cons (SE.lc (own := [("_law_i", 8)]) false rfl sc.nd (SI.range1 (by rfl) T.b_range (SA.cons (SE.op op_addAll (addS false) (SE.var 1) SE.int) SA.nil)) (by exact blkOk_by (N := ["_law_p", "_law_d", "_law_f", "_law_total", "_law_row", "_law_x", "_law_h", "_law_one", "_law_i"]) (sc := defScope s__law_broken) (by decide +kernel)) (fun _ _ _ _ _ => (SGw.name sc.nd rfl (.inl rfl) (by decide))) (fun _ _ _ _ _ => STs.nil) (fun _ _ _ _ _ => (SE.op op_mulAll (mulS false) (SE.ix (SE.var 4) (SE.var 8)) (SE.ix (SE.var 2) (SE.op op_mod modS (SE.callTy call_intAll intS (by rfl) T.b_int (by rfl) (SA.cons (SE.op op_addAll (addS false) (SE.var 5) (SE.op op_mulAll (mulS false) (SE.var 8) (SE.var 6))) SA.nil)) (SE.var 0)))))) SA.nil)))
    (SS.one (S1.ite (ST.cmp op_gt gtS (SE.op op_mod modS (SE.callTy call_intAll intS (by rfl) T.b_int (by rfl) (SA.cons (SE.var 7) SA.nil)) (SE.var 0)) SE.int (nomark _)) (SS.one (S1.set sc.nd rfl (.inl rfl) (SE.op op_addAll (addS false) (SE.var 3) SE.int))) SS.nil))))))
    (SS.one (S1.ret (SE.var 3))))))
theorem ok_law (T : Txt K mg c fa fd) : FnS c P w K mg base 10 (fa 36) (fd 36) ["_law_script"] m_law := by
  have sc := sc_law
  refine FnS.of T.f_law.F sc fun cdv A outer s H E hr hgd => ?_
  have tk0 := takes_of (X := cxOf (L2.CX P w) P w K mg base ["_law_script", "_law_hand", "_law_p", "_law_d", "_law_curve_here", "_law_clean", "_law_x", "_law_most", "_law_f", "_law_places", "_law_w", "_law_near_here", "_law_k", "_law_value_here", "_law_votes_here"] "law" (defScope s_law) (fa 36) cdv A outer s H E) (E := E) rfl rfl rfl rfl
  have hp0 := passes_of (X := cxOf (L2.CX P w) P w K mg base ["_law_script", "_law_hand", "_law_p", "_law_d", "_law_curve_here", "_law_clean", "_law_x", "_law_most", "_law_f", "_law_places", "_law_w", "_law_near_here", "_law_k", "_law_value_here", "_law_votes_here"] "law" (defScope s_law) (fa 36) cdv A outer s H E) rfl
  exact (SS.cons (S1.set sc.nd rfl (.inl rfl) (SE.lst true (SA.cons (SE.call (ok__law_draws T) (hr.mono (by decide)) hgd (by rfl) T.f__law_draws.m T.f__law_draws.F.kp T.f__law_draws.b tk0 (SA.cons (SE.var 0) (SA.cons SE.int SA.nil))) (SA.cons SE.int SA.nil))))
    (SS.cons (S1.set sc.nd rfl (.inr rfl) (SE.call (ok__law_prime T) (hr.mono (by decide)) hgd (by rfl) T.f__law_prime.m T.f__law_prime.F.kp T.f__law_prime.b tk0 (SA.cons (SE.var 1) (SA.cons (SE.ix (SE.lst false (SA.cons SE.int (SA.cons SE.int (SA.cons SE.int SA.nil)))) (SE.call (ok__law_take T) (hr.mono (by decide)) hgd (by rfl) T.f__law_take.m T.f__law_take.F.kp T.f__law_take.b tk0 (SA.cons (SE.var 1) (SA.cons SE.int SA.nil)))) SA.nil))))
    (SS.cons (S1.set sc.nd rfl (.inl rfl) (SE.call (ok__law_take T) (hr.mono (by decide)) hgd (by rfl) T.f__law_take.m T.f__law_take.F.kp T.f__law_take.b tk0 (SA.cons (SE.var 1) (SA.cons (SE.callB (call_minAll rfl) minS (by rfl) T.b_min (by rfl) (SA.cons SE.int (SA.cons (SE.op op_sub subS (SE.var 2) SE.int) SA.nil))) SA.nil))))
    (SS.cons (S1.set sc.nd rfl (.inr rfl) (SE.call (ok__law_curve T) (hr.mono (by decide)) hgd (by rfl) T.f__law_curve.m T.f__law_curve.F.kp T.f__law_curve.b tk0 (SA.cons (SE.var 1) (SA.cons (SE.var 2) (SA.cons (SE.var 3) SA.nil)))))
    (SS.cons (S1.set sc.nd rfl (.inr rfl) (SE.callTy call_tuple_of tupleS (by rfl) T.b_tuple (by rfl) (SA.cons (SE.lc (own := [("_law_x", 6)]) false rfl sc.nd (SI.range1 (by rfl) T.b_range (SA.cons (SE.var 2) SA.nil)) (by exact blkOk_by (N := ["_law_script", "_law_hand", "_law_p", "_law_d", "_law_curve_here", "_law_clean", "_law_x", "_law_most", "_law_f", "_law_places", "_law_w", "_law_near_here", "_law_k", "_law_value_here", "_law_votes_here"]) (sc := defScope s_law) (by decide +kernel)) (fun _ _ _ _ _ => (SGw.name sc.nd rfl (.inl rfl) (by decide))) (fun _ _ _ _ _ => STs.nil) (fun _ _ _ _ _ => (SE.call (ok__law_value T) (hr.mono (by decide)) hgd (by rfl) T.f__law_value.m T.f__law_value.F.kp T.f__law_value.b takes0 (SA.cons (SE.var 2) (SA.cons (SE.var 4) (SA.cons (SE.var 6) SA.nil)))))) SA.nil)))
    (SS.cons (S1.set sc.nd rfl (.inl rfl) (SE.op op_div divS (SE.op op_sub subS (SE.var 2) SE.int) (SE.op op_mulAll (mulS false) SE.int (SE.op op_addAll (addS false) (SE.var 3) SE.int))))
    (SS.cons (S1.set sc.nd rfl (.inr rfl) (SE.call (ok__law_turned T) (hr.mono (by decide)) hgd (by rfl) T.f__law_turned.m T.f__law_turned.F.kp T.f__law_turned.b tk0 (SA.cons (SE.var 1) (SA.cons (SE.var 2) (SA.cons (SE.var 5) (SA.cons (SE.op op_mulAll (mulS false) (SE.ix (SE.lst false (SA.cons SE.int (SA.cons SE.int (SA.cons (SE.var 7) (SA.cons (SE.call (ok__law_take T) (hr.mono (by decide)) hgd (by rfl) T.f__law_take.m T.f__law_take.F.kp T.f__law_take.b tk0 (SA.cons (SE.var 1) (SA.cons (SE.op op_addAll (addS false) (SE.var 7) SE.int) SA.nil))) SA.nil))))) (SE.call (ok__law_take T) (hr.mono (by decide)) hgd (by rfl) T.f__law_take.m T.f__law_take.F.kp T.f__law_take.b tk0 (SA.cons (SE.var 1) (SA.cons SE.int SA.nil)))) (SE.callTy call_intAll intS (by rfl) T.b_int (by rfl) (SA.cons (SE.cmp op_gt gtS (SE.var 7) SE.int (nomark _)) SA.nil))) SA.nil))))))
    (SS.cons (S1.set sc.nd rfl (.inl rfl) (SE.callTy call_tuple_of tupleS (by rfl) T.b_tuple (by rfl) (SA.cons (SE.lc (own := [("_law_x", 6)]) false rfl sc.nd (SI.range1 (by rfl) T.b_range (SA.cons (SE.var 2) SA.nil)) (by exact blkOk_by (N := ["_law_script", "_law_hand", "_law_p", "_law_d", "_law_curve_here", "_law_clean", "_law_x", "_law_most", "_law_f", "_law_places", "_law_w", "_law_near_here", "_law_k", "_law_value_here", "_law_votes_here"]) (sc := defScope s_law) (by decide +kernel)) (fun _ _ _ _ _ => (SGw.name sc.nd rfl (.inl rfl) (by decide))) (fun _ _ _ _ _ => (STs.one (ST.cmp (op_neAll hr.units) neS (SE.ix (SE.var 8) (SE.var 6)) (SE.ix (SE.var 5) (SE.var 6)) (nomark _)))) (fun _ _ _ _ _ => (SE.var 6))) SA.nil)))
    (SS.cons (S1.set sc.nd rfl (.inl rfl) (SE.callB call_lenAll lenS (by rfl) T.b_len PySem.boot_len (SA.cons (SE.var 9) SA.nil)))
    (SS.cons (S1.ite (SW.st (SW.or (ST.cmp (op_neAll hr.units) neS (SE.callB (call_reprD hgd hr.units) reprS (by rfl) T.b_repr (by rfl) (SA.cons (SE.call (ok_close_curve T) (hr.mono (by decide)) hgd (by rfl) T.f_close_curve.m T.f_close_curve.F.kp T.f_close_curve.b tk0 (SA.cons (SE.var 2) (SA.cons (SE.var 3) (SA.cons (SE.var 8) SA.nil)))) SA.nil)) (SE.callB (call_reprD hgd hr.units) reprS (by rfl) T.b_repr (by rfl) (SA.cons (SE.var 4) SA.nil)) (nomark _)) (SW.or1 (ST.cmp (op_neAll hr.units) neS (SE.callB (call_reprD hgd hr.units) reprS (by rfl) T.b_repr (by rfl) (SA.cons (SE.call (ok_wrong_on T) (hr.mono (by decide)) hgd (by rfl) T.f_wrong_on.m T.f_wrong_on.F.kp T.f_wrong_on.b tk0 (SA.cons (SE.var 2) (SA.cons (SE.var 4) (SA.cons (SE.var 8) SA.nil)))) SA.nil)) (SE.callB (call_reprD hgd hr.units) reprS (by rfl) T.b_repr (by rfl) (SA.cons (SE.var 9) SA.nil)) (nomark _))))) (SS.one (S1.ret SE.bl)) SS.nil)
    (SS.cons (S1.set sc.nd rfl (.inl rfl) SE.bl)
    (SS.cons (S1.ite (ST.cmp op_lt ltS (SE.var 2) SE.int (nomark _)) (SS.cons (S1.set sc.nd rfl (.inl rfl) (SE.call (ok_is_near T) (hr.mono (by decide)) hgd (by rfl) T.f_is_near.m T.f_is_near.F.kp T.f_is_near.b tk0 (SA.cons (SE.var 2) (SA.cons (SE.var 3) (SA.cons (SE.var 8) SA.nil)))))
    (SS.cons (S1.ite (ST.cmp (op_neAll hr.units) neS (SE.var 11) (SE.cmp op_lt ltS (SE.op op_mulAll (mulS false) (SE.op op_mulAll (mulS false) (SE.op op_mulAll (mulS false) (SE.call (ok__law_broken T) (hr.mono (by decide)) hgd (by rfl) T.f__law_broken.m T.f__law_broken.F.kp T.f__law_broken.b tk0 (SA.cons (SE.var 2) (SA.cons (SE.var 3) (SA.cons (SE.var 8) SA.nil)))) (SE.op op_addAll (addS false) (SE.var 3) SE.int)) (SE.op op_addAll (addS false) (SE.var 3) SE.int)) (SE.op op_addAll (addS false) (SE.var 3) SE.int)) (SE.op op_mulAll (mulS false) (SE.op op_mulAll (mulS false) (SE.op op_addAll (addS false) (SE.var 3) SE.int) (SE.var 2)) (SE.var 2)) (nomark _)) (nomark _)) (SS.one (S1.ret SE.bl)) SS.nil)
    (SS.one (S1.ite (SW.st (SW.and (ST.val (SE.var 11)) (SW.and1 (ST.cmp op_ge geS (SE.op op_mulAll (mulS false) (SE.op op_mulAll (mulS false) (SE.var 10) (SE.op op_addAll (addS false) (SE.var 3) SE.int)) (SE.op op_addAll (addS false) (SE.var 3) SE.int)) (SE.var 2) (nomark _))))) (SS.one (S1.ret SE.bl)) SS.nil)))) SS.nil)
    (SS.cons (S1.for hp0 rfl (SI.range1 (by rfl) T.b_range (SA.cons SE.int SA.nil)) (SG.name sc.nd rfl (.inl rfl)) (SS.cons (S1.set sc.nd rfl (.inl rfl) (SE.call (ok__law_take T) (hr.mono (by decide)) hgd (by rfl) T.f__law_take.m T.f__law_take.F.kp T.f__law_take.b tk0 (SA.cons (SE.var 1) (SA.cons (SE.var 2) SA.nil))))
    (SS.cons (S1.set sc.nd rfl (.inl rfl) (SE.call (ok_value_at T) (hr.mono (by decide)) hgd (by rfl) T.f_value_at.m T.f_value_at.F.kp T.f_value_at.b tk0 (SA.cons (SE.var 2) (SA.cons (SE.var 4) (SA.cons (SE.var 6) SA.nil)))))
    (SS.cons (S1.set sc.nd rfl (.inl rfl) (SE.call (ok__law_votes T) (hr.mono (by decide)) hgd (by rfl) T.f__law_votes.m T.f__law_votes.F.kp T.f__law_votes.b tk0 (SA.cons (SE.var 2) (SA.cons (SE.var 3) (SA.cons (SE.var 8) (SA.cons (SE.var 6) SA.nil))))))
    (SS.cons (S1.ite (SW.st (SW.or (ST.cmp (op_neAll hr.units) neS (SE.callB (call_reprD hgd hr.units) reprS (by rfl) T.b_repr (by rfl) (SA.cons (SE.var 13) SA.nil)) (SE.callB (call_reprD hgd hr.units) reprS (by rfl) T.b_repr (by rfl) (SA.cons (SE.ix (SE.var 5) (SE.var 6)) SA.nil)) (nomark _)) (SW.or (ST.cmp op_le leS (SE.op op_mulAll (mulS false) SE.int (SE.ix (SE.var 14) (SE.var 13))) (SE.var 2) (nomark _)) (SW.or1 (ST.cmp op_gt gtS (SE.op op_sub subS (SE.var 2) (SE.ix (SE.var 14) (SE.var 13))) (SE.op op_mulAll (mulS false) (SE.op op_addAll (addS false) (SE.var 3) SE.int) (SE.var 10)) (nomark _)))))) (SS.one (S1.ret SE.bl)) SS.nil)
    (SS.one (S1.ite (SW.st (SW.and (ST.val (SE.var 11)) (SW.and1 (ST.cmp op_le leS (SE.op op_mulAll (mulS false) (SE.op op_addAll (addS false) (SE.var 3) SE.int) (SE.ix (SE.var 14) (SE.var 13))) (SE.op op_mulAll (mulS false) (SE.op op_addAll (addS false) (SE.var 3) SE.int) (SE.var 2)) (nomark _))))) (SS.one (S1.ret SE.bl)) SS.nil)))))))
    (SS.one (S1.ret (SE.call (ok__law_is_small T) (hr.mono (by decide)) hgd (by rfl) T.f__law_is_small.m T.f__law_is_small.F.kp T.f__law_is_small.b tk0 (SA.cons (SE.var 1) SA.nil)))))))))))))))))
end
theorem all_mk {w : World} {K : PySem.W.Frag} {h : Heap} {mg : Str → Option Value} {fl : Addr} (X : K.In h) (G : h.Ns mainGlobals mg) (hfl : mg "law" = some (.ref fl))
    {C0 : Addr}
    {C1 : Addr}
    {C2 : Addr}
    {a26 : Addr} {od26 an26 : Option Addr} {sl26 : Array (Option Value)} {oc26 kV26 dc26 pm26 cd26 ct26 : Value}
    {a27 : Addr} {od27 an27 : Option Addr} {sl27 : Array (Option Value)} {oc27 kV27 dc27 pm27 cd27 ct27 : Value}
    {a29 : Addr} {od29 an29 : Option Addr} {sl29 : Array (Option Value)} {oc29 kV29 dc29 pm29 cd29 ct29 : Value}
    {a30 : Addr} {od30 an30 : Option Addr} {sl30 : Array (Option Value)} {oc30 kV30 dc30 pm30 cd30 ct30 : Value}
    {a28 : Addr} {od28 an28 : Option Addr} {sl28 : Array (Option Value)} {oc28 kV28 dc28 pm28 cd28 ct28 : Value}
    {a34 : Addr} {od34 an34 : Option Addr} {sl34 : Array (Option Value)} {oc34 kV34 dc34 pm34 cd34 ct34 : Value}
    {a2 : Addr} {od2 an2 : Option Addr} {sl2 : Array (Option Value)} {oc2 kV2 dc2 pm2 cd2 ct2 : Value}
    {a3 : Addr} {od3 an3 : Option Addr} {sl3 : Array (Option Value)} {oc3 kV3 dc3 pm3 cd3 ct3 : Value}
    {a7 : Addr} {od7 an7 : Option Addr} {sl7 : Array (Option Value)} {oc7 kV7 dc7 pm7 cd7 ct7 : Value}
    {a0 : Addr} {od0 an0 : Option Addr} {sl0 : Array (Option Value)} {oc0 kV0 dc0 pm0 cd0 ct0 : Value}
    {a8 : Addr} {od8 an8 : Option Addr} {sl8 : Array (Option Value)} {oc8 kV8 dc8 pm8 cd8 ct8 : Value}
    {a4 : Addr} {od4 an4 : Option Addr} {sl4 : Array (Option Value)} {oc4 kV4 dc4 pm4 cd4 ct4 : Value}
    {a5 : Addr} {od5 an5 : Option Addr} {sl5 : Array (Option Value)} {oc5 kV5 dc5 pm5 cd5 ct5 : Value}
    {a1 : Addr} {od1 an1 : Option Addr} {sl1 : Array (Option Value)} {oc1 kV1 dc1 pm1 cd1 ct1 : Value}
    {a9 : Addr} {od9 an9 : Option Addr} {sl9 : Array (Option Value)} {oc9 kV9 dc9 pm9 cd9 ct9 : Value}
    {a10 : Addr} {od10 an10 : Option Addr} {sl10 : Array (Option Value)} {oc10 kV10 dc10 pm10 cd10 ct10 : Value}
    {a17 : Addr} {od17 an17 : Option Addr} {sl17 : Array (Option Value)} {oc17 kV17 dc17 pm17 cd17 ct17 : Value}
    {a16 : Addr} {od16 an16 : Option Addr} {sl16 : Array (Option Value)} {oc16 kV16 dc16 pm16 cd16 ct16 : Value}
    {a19 : Addr} {od19 an19 : Option Addr} {sl19 : Array (Option Value)} {oc19 kV19 dc19 pm19 cd19 ct19 : Value}
    {a18 : Addr} {od18 an18 : Option Addr} {sl18 : Array (Option Value)} {oc18 kV18 dc18 pm18 cd18 ct18 : Value}
    {a6 : Addr} {od6 an6 : Option Addr} {sl6 : Array (Option Value)} {oc6 kV6 dc6 pm6 cd6 ct6 : Value}
    {a11 : Addr} {od11 an11 : Option Addr} {sl11 : Array (Option Value)} {oc11 kV11 dc11 pm11 cd11 ct11 : Value}
    {a12 : Addr} {od12 an12 : Option Addr} {sl12 : Array (Option Value)} {oc12 kV12 dc12 pm12 cd12 ct12 : Value}
    {a14 : Addr} {od14 an14 : Option Addr} {sl14 : Array (Option Value)} {oc14 kV14 dc14 pm14 cd14 ct14 : Value}
    {a20 : Addr} {od20 an20 : Option Addr} {sl20 : Array (Option Value)} {oc20 kV20 dc20 pm20 cd20 ct20 : Value}
    {a21 : Addr} {od21 an21 : Option Addr} {sl21 : Array (Option Value)} {oc21 kV21 dc21 pm21 cd21 ct21 : Value}
    {a35 : Addr} {od35 an35 : Option Addr} {sl35 : Array (Option Value)} {oc35 kV35 dc35 pm35 cd35 ct35 : Value}
    {a25 : Addr} {od25 an25 : Option Addr} {sl25 : Array (Option Value)} {oc25 kV25 dc25 pm25 cd25 ct25 : Value}
    {a13 : Addr} {od13 an13 : Option Addr} {sl13 : Array (Option Value)} {oc13 kV13 dc13 pm13 cd13 ct13 : Value}
    {a15 : Addr} {od15 an15 : Option Addr} {sl15 : Array (Option Value)} {oc15 kV15 dc15 pm15 cd15 ct15 : Value}
    {a22 : Addr} {od22 an22 : Option Addr} {sl22 : Array (Option Value)} {oc22 kV22 dc22 pm22 cd22 ct22 : Value}
    {a23 : Addr} {od23 an23 : Option Addr} {sl23 : Array (Option Value)} {oc23 kV23 dc23 pm23 cd23 ct23 : Value}
    {a31 : Addr} {od31 an31 : Option Addr} {sl31 : Array (Option Value)} {oc31 kV31 dc31 pm31 cd31 ct31 : Value}
    {a33 : Addr} {od33 an33 : Option Addr} {sl33 : Array (Option Value)} {oc33 kV33 dc33 pm33 cd33 ct33 : Value}
    {a24 : Addr} {od24 an24 : Option Addr} {sl24 : Array (Option Value)} {oc24 kV24 dc24 pm24 cd24 ct24 : Value}
    {a32 : Addr} {od32 an32 : Option Addr} {sl32 : Array (Option Value)} {oc32 kV32 dc32 pm32 cd32 ct32 : Value}
    {a36 : Addr} {od36 an36 : Option Addr} {sl36 : Array (Option Value)} {oc36 kV36 dc36 pm36 cd36 ct36 : Value}
    {t_MOST_PRIME : Tok}
    {t_MOST_DEGREE : Tok}
    {t_MOST_NUMBERS : Tok}
    {nm1 q1 : Str} {N1 : Addr} {bs1 : List Value} {sn1 : List Str} {sub1 bm1 : List Value} {ab1 : Bool} {col1 : Option Bool} {dd1 : Option Addr} {m0_1 m1_1 m2_1 m3_1 m5_1 : Option Value}
    {nm2 q2 : Str} {N2 : Addr} {bs2 : List Value} {sn2 : List Str} {sub2 bm2 : List Value} {ab2 : Bool} {col2 : Option Bool} {dd2 : Option Addr} {m0_2 m1_2 m2_2 m3_2 m5_2 : Option Value}
    (y0a : PySem.W.nsIn K mainGlobals "NinthError" = some (some (.ref C0)))
    (f26a : PySem.W.nsIn K mainGlobals "_law_take" = some (some (.ref a26)))
    (f26l : K.lookup a26 = some ⟨oc26, od26, .func (PySem.W.fnOf "_law_take" "_law_take" (defArgs s__law_take) (defBody s__law_take) (defScope s__law_take) .none kV26 dc26 pm26 an26 cd26 ct26), sl26⟩)
    (f26c : PySem.W.codeIn K cd26 "_law_take" = true)
    (f26k : PySem.W.keepIn K (.ref a26) = true)
    (f27a : PySem.W.nsIn K mainGlobals "_law_prime" = some (some (.ref a27)))
    (f27l : K.lookup a27 = some ⟨oc27, od27, .func (PySem.W.fnOf "_law_prime" "_law_prime" (defArgs s__law_prime) (defBody s__law_prime) (defScope s__law_prime) .none kV27 dc27 pm27 an27 cd27 ct27), sl27⟩)
    (f27c : PySem.W.codeIn K cd27 "_law_prime" = true)
    (f27k : PySem.W.keepIn K (.ref a27) = true)
    (f29a : PySem.W.nsIn K mainGlobals "_law_curve" = some (some (.ref a29)))
    (f29l : K.lookup a29 = some ⟨oc29, od29, .func (PySem.W.fnOf "_law_curve" "_law_curve" (defArgs s__law_curve) (defBody s__law_curve) (defScope s__law_curve) .none kV29 dc29 pm29 an29 cd29 ct29), sl29⟩)
    (f29c : PySem.W.codeIn K cd29 "_law_curve" = true)
    (f29k : PySem.W.keepIn K (.ref a29) = true)
    (f30a : PySem.W.nsIn K mainGlobals "_law_turned" = some (some (.ref a30)))
    (f30l : K.lookup a30 = some ⟨oc30, od30, .func (PySem.W.fnOf "_law_turned" "_law_turned" (defArgs s__law_turned) (defBody s__law_turned) (defScope s__law_turned) .none kV30 dc30 pm30 an30 cd30 ct30), sl30⟩)
    (f30c : PySem.W.codeIn K cd30 "_law_turned" = true)
    (f30k : PySem.W.keepIn K (.ref a30) = true)
    (f28a : PySem.W.nsIn K mainGlobals "_law_value" = some (some (.ref a28)))
    (f28l : K.lookup a28 = some ⟨oc28, od28, .func (PySem.W.fnOf "_law_value" "_law_value" (defArgs s__law_value) (defBody s__law_value) (defScope s__law_value) .none kV28 dc28 pm28 an28 cd28 ct28), sl28⟩)
    (f28c : PySem.W.codeIn K cd28 "_law_value" = true)
    (f28k : PySem.W.keepIn K (.ref a28) = true)
    (f34a : PySem.W.nsIn K mainGlobals "_law_near" = some (some (.ref a34)))
    (f34l : K.lookup a34 = some ⟨oc34, od34, .func (PySem.W.fnOf "_law_near" "_law_near" (defArgs s__law_near) (defBody s__law_near) (defScope s__law_near) .none kV34 dc34 pm34 an34 cd34 ct34), sl34⟩)
    (f34c : PySem.W.codeIn K cd34 "_law_near" = true)
    (f34k : PySem.W.keepIn K (.ref a34) = true)
    (f2a : PySem.W.nsIn K mainGlobals "is_integer" = some (some (.ref a2)))
    (f2l : K.lookup a2 = some ⟨oc2, od2, .func (PySem.W.fnOf "is_integer" "is_integer" (defArgs s_is_integer) (defBody s_is_integer) (defScope s_is_integer) .none kV2 dc2 pm2 an2 cd2 ct2), sl2⟩)
    (f2c : PySem.W.codeIn K cd2 "is_integer" = true)
    (f2k : PySem.W.keepIn K (.ref a2) = true)
    (f3a : PySem.W.nsIn K mainGlobals "is_number" = some (some (.ref a3)))
    (f3l : K.lookup a3 = some ⟨oc3, od3, .func (PySem.W.fnOf "is_number" "is_number" (defArgs s_is_number) (defBody s_is_number) (defScope s_is_number) .none kV3 dc3 pm3 an3 cd3 ct3), sl3⟩)
    (f3c : PySem.W.codeIn K cd3 "is_number" = true)
    (f3k : PySem.W.keepIn K (.ref a3) = true)
    (f7a : PySem.W.nsIn K mainGlobals "is_prime" = some (some (.ref a7)))
    (f7l : K.lookup a7 = some ⟨oc7, od7, .func (PySem.W.fnOf "is_prime" "is_prime" (defArgs s_is_prime) (defBody s_is_prime) (defScope s_is_prime) .none kV7 dc7 pm7 an7 cd7 ct7), sl7⟩)
    (f7c : PySem.W.codeIn K cd7 "is_prime" = true)
    (f7k : PySem.W.keepIn K (.ref a7) = true)
    (f0l : K.lookup a0 = some ⟨oc0, od0, .func (PySem.W.fnOf "__init__" "InvalidNumber.__init__" (defArgs s_InvalidNumber_init) (defBody s_InvalidNumber_init) (defScope s_InvalidNumber_init) .none kV0 dc0 pm0 an0 cd0 ct0), sl0⟩)
    (f0c : PySem.W.codeIn K cd0 "InvalidNumber.__init__" = true)
    (f0k : PySem.W.keepIn K (.ref a0) = true)
    (f8a : PySem.W.nsIn K mainGlobals "check_prime" = some (some (.ref a8)))
    (f8l : K.lookup a8 = some ⟨oc8, od8, .func (PySem.W.fnOf "check_prime" "check_prime" (defArgs s_check_prime) (defBody s_check_prime) (defScope s_check_prime) .none kV8 dc8 pm8 an8 cd8 ct8), sl8⟩)
    (f8c : PySem.W.codeIn K cd8 "check_prime" = true)
    (f8k : PySem.W.keepIn K (.ref a8) = true)
    (f4a : PySem.W.nsIn K mainGlobals "is_below" = some (some (.ref a4)))
    (f4l : K.lookup a4 = some ⟨oc4, od4, .func (PySem.W.fnOf "is_below" "is_below" (defArgs s_is_below) (defBody s_is_below) (defScope s_is_below) .none kV4 dc4 pm4 an4 cd4 ct4), sl4⟩)
    (f4c : PySem.W.codeIn K cd4 "is_below" = true)
    (f4k : PySem.W.keepIn K (.ref a4) = true)
    (f5a : PySem.W.nsIn K mainGlobals "row_below" = some (some (.ref a5)))
    (f5l : K.lookup a5 = some ⟨oc5, od5, .func (PySem.W.fnOf "row_below" "row_below" (defArgs s_row_below) (defBody s_row_below) (defScope s_row_below) .none kV5 dc5 pm5 an5 cd5 ct5), sl5⟩)
    (f5c : PySem.W.codeIn K cd5 "row_below" = true)
    (f5k : PySem.W.keepIn K (.ref a5) = true)
    (f1l : K.lookup a1 = some ⟨oc1, od1, .func (PySem.W.fnOf "__init__" "InvalidMap.__init__" (defArgs s_InvalidMap_init) (defBody s_InvalidMap_init) (defScope s_InvalidMap_init) .none kV1 dc1 pm1 an1 cd1 ct1), sl1⟩)
    (f1c : PySem.W.codeIn K cd1 "InvalidMap.__init__" = true)
    (f1k : PySem.W.keepIn K (.ref a1) = true)
    (f9a : PySem.W.nsIn K mainGlobals "check_table" = some (some (.ref a9)))
    (f9l : K.lookup a9 = some ⟨oc9, od9, .func (PySem.W.fnOf "check_table" "check_table" (defArgs s_check_table) (defBody s_check_table) (defScope s_check_table) .none kV9 dc9 pm9 an9 cd9 ct9), sl9⟩)
    (f9c : PySem.W.codeIn K cd9 "check_table" = true)
    (f9k : PySem.W.keepIn K (.ref a9) = true)
    (f10a : PySem.W.nsIn K mainGlobals "check_degree" = some (some (.ref a10)))
    (f10l : K.lookup a10 = some ⟨oc10, od10, .func (PySem.W.fnOf "check_degree" "check_degree" (defArgs s_check_degree) (defBody s_check_degree) (defScope s_check_degree) .none kV10 dc10 pm10 an10 cd10 ct10), sl10⟩)
    (f10c : PySem.W.codeIn K cd10 "check_degree" = true)
    (f10k : PySem.W.keepIn K (.ref a10) = true)
    (f17a : PySem.W.nsIn K mainGlobals "times_less" = some (some (.ref a17)))
    (f17l : K.lookup a17 = some ⟨oc17, od17, .func (PySem.W.fnOf "times_less" "times_less" (defArgs s_times_less) (defBody s_times_less) (defScope s_times_less) .none kV17 dc17 pm17 an17 cd17 ct17), sl17⟩)
    (f17c : PySem.W.codeIn K cd17 "times_less" = true)
    (f17k : PySem.W.keepIn K (.ref a17) = true)
    (f16a : PySem.W.nsIn K mainGlobals "inverse_of" = some (some (.ref a16)))
    (f16l : K.lookup a16 = some ⟨oc16, od16, .func (PySem.W.fnOf "inverse_of" "inverse_of" (defArgs s_inverse_of) (defBody s_inverse_of) (defScope s_inverse_of) .none kV16 dc16 pm16 an16 cd16 ct16), sl16⟩)
    (f16c : PySem.W.codeIn K cd16 "inverse_of" = true)
    (f16k : PySem.W.keepIn K (.ref a16) = true)
    (f19a : PySem.W.nsIn K mainGlobals "value_of" = some (some (.ref a19)))
    (f19l : K.lookup a19 = some ⟨oc19, od19, .func (PySem.W.fnOf "value_of" "value_of" (defArgs s_value_of) (defBody s_value_of) (defScope s_value_of) .none kV19 dc19 pm19 an19 cd19 ct19), sl19⟩)
    (f19c : PySem.W.codeIn K cd19 "value_of" = true)
    (f19k : PySem.W.keepIn K (.ref a19) = true)
    (f18a : PySem.W.nsIn K mainGlobals "curve_through" = some (some (.ref a18)))
    (f18l : K.lookup a18 = some ⟨oc18, od18, .func (PySem.W.fnOf "curve_through" "curve_through" (defArgs s_curve_through) (defBody s_curve_through) (defScope s_curve_through) .none kV18 dc18 pm18 an18 cd18 ct18), sl18⟩)
    (f18c : PySem.W.codeIn K cd18 "curve_through" = true)
    (f18k : PySem.W.keepIn K (.ref a18) = true)
    (f6a : PySem.W.nsIn K mainGlobals "ways_of" = some (some (.ref a6)))
    (f6l : K.lookup a6 = some ⟨oc6, od6, .func (PySem.W.fnOf "ways_of" "ways_of" (defArgs s_ways_of) (defBody s_ways_of) (defScope s_ways_of) .none kV6 dc6 pm6 an6 cd6 ct6), sl6⟩)
    (f6c : PySem.W.codeIn K cd6 "ways_of" = true)
    (f6k : PySem.W.keepIn K (.ref a6) = true)
    (f11a : PySem.W.nsIn K mainGlobals "factors_of" = some (some (.ref a11)))
    (f11l : K.lookup a11 = some ⟨oc11, od11, .func (PySem.W.fnOf "factors_of" "factors_of" (defArgs s_factors_of) (defBody s_factors_of) (defScope s_factors_of) .none kV11 dc11 pm11 an11 cd11 ct11), sl11⟩)
    (f11c : PySem.W.codeIn K cd11 "factors_of" = true)
    (f11k : PySem.W.keepIn K (.ref a11) = true)
    (f12a : PySem.W.nsIn K mainGlobals "step_sum" = some (some (.ref a12)))
    (f12l : K.lookup a12 = some ⟨oc12, od12, .func (PySem.W.fnOf "step_sum" "step_sum" (defArgs s_step_sum) (defBody s_step_sum) (defScope s_step_sum) .none kV12 dc12 pm12 an12 cd12 ct12), sl12⟩)
    (f12c : PySem.W.codeIn K cd12 "step_sum" = true)
    (f12k : PySem.W.keepIn K (.ref a12) = true)
    (f14a : PySem.W.nsIn K mainGlobals "step_votes" = some (some (.ref a14)))
    (f14l : K.lookup a14 = some ⟨oc14, od14, .func (PySem.W.fnOf "step_votes" "step_votes" (defArgs s_step_votes) (defBody s_step_votes) (defScope s_step_votes) .none kV14 dc14 pm14 an14 cd14 ct14), sl14⟩)
    (f14c : PySem.W.codeIn K cd14 "step_votes" = true)
    (f14k : PySem.W.keepIn K (.ref a14) = true)
    (f20a : PySem.W.nsIn K mainGlobals "places_apart" = some (some (.ref a20)))
    (f20l : K.lookup a20 = some ⟨oc20, od20, .func (PySem.W.fnOf "places_apart" "places_apart" (defArgs s_places_apart) (defBody s_places_apart) (defScope s_places_apart) .none kV20 dc20 pm20 an20 cd20 ct20), sl20⟩)
    (f20c : PySem.W.codeIn K cd20 "places_apart" = true)
    (f20k : PySem.W.keepIn K (.ref a20) = true)
    (f21a : PySem.W.nsIn K mainGlobals "close_curve" = some (some (.ref a21)))
    (f21l : K.lookup a21 = some ⟨oc21, od21, .func (PySem.W.fnOf "close_curve" "close_curve" (defArgs s_close_curve) (defBody s_close_curve) (defScope s_close_curve) .none kV21 dc21 pm21 an21 cd21 ct21), sl21⟩)
    (f21c : PySem.W.codeIn K cd21 "close_curve" = true)
    (f21k : PySem.W.keepIn K (.ref a21) = true)
    (f35a : PySem.W.nsIn K mainGlobals "_law_is_small" = some (some (.ref a35)))
    (f35l : K.lookup a35 = some ⟨oc35, od35, .func (PySem.W.fnOf "_law_is_small" "_law_is_small" (defArgs s__law_is_small) (defBody s__law_is_small) (defScope s__law_is_small) .none kV35 dc35 pm35 an35 cd35 ct35), sl35⟩)
    (f35c : PySem.W.codeIn K cd35 "_law_is_small" = true)
    (f35k : PySem.W.keepIn K (.ref a35) = true)
    (f25a : PySem.W.nsIn K mainGlobals "_law_draws" = some (some (.ref a25)))
    (f25l : K.lookup a25 = some ⟨oc25, od25, .func (PySem.W.fnOf "_law_draws" "_law_draws" (defArgs s__law_draws) (defBody s__law_draws) (defScope s__law_draws) .none kV25 dc25 pm25 an25 cd25 ct25), sl25⟩)
    (f25c : PySem.W.codeIn K cd25 "_law_draws" = true)
    (f25k : PySem.W.keepIn K (.ref a25) = true)
    (f13a : PySem.W.nsIn K mainGlobals "broken_steps" = some (some (.ref a13)))
    (f13l : K.lookup a13 = some ⟨oc13, od13, .func (PySem.W.fnOf "broken_steps" "broken_steps" (defArgs s_broken_steps) (defBody s_broken_steps) (defScope s_broken_steps) .none kV13 dc13 pm13 an13 cd13 ct13), sl13⟩)
    (f13c : PySem.W.codeIn K cd13 "broken_steps" = true)
    (f13k : PySem.W.keepIn K (.ref a13) = true)
    (f15a : PySem.W.nsIn K mainGlobals "is_near" = some (some (.ref a15)))
    (f15l : K.lookup a15 = some ⟨oc15, od15, .func (PySem.W.fnOf "is_near" "is_near" (defArgs s_is_near) (defBody s_is_near) (defScope s_is_near) .none kV15 dc15 pm15 an15 cd15 ct15), sl15⟩)
    (f15c : PySem.W.codeIn K cd15 "is_near" = true)
    (f15k : PySem.W.keepIn K (.ref a15) = true)
    (f22a : PySem.W.nsIn K mainGlobals "is_curve" = some (some (.ref a22)))
    (f22l : K.lookup a22 = some ⟨oc22, od22, .func (PySem.W.fnOf "is_curve" "is_curve" (defArgs s_is_curve) (defBody s_is_curve) (defScope s_is_curve) .none kV22 dc22 pm22 an22 cd22 ct22), sl22⟩)
    (f22c : PySem.W.codeIn K cd22 "is_curve" = true)
    (f22k : PySem.W.keepIn K (.ref a22) = true)
    (f23a : PySem.W.nsIn K mainGlobals "value_at" = some (some (.ref a23)))
    (f23l : K.lookup a23 = some ⟨oc23, od23, .func (PySem.W.fnOf "value_at" "value_at" (defArgs s_value_at) (defBody s_value_at) (defScope s_value_at) .none kV23 dc23 pm23 an23 cd23 ct23), sl23⟩)
    (f23c : PySem.W.codeIn K cd23 "value_at" = true)
    (f23k : PySem.W.keepIn K (.ref a23) = true)
    (f31a : PySem.W.nsIn K mainGlobals "_law_steps" = some (some (.ref a31)))
    (f31l : K.lookup a31 = some ⟨oc31, od31, .func (PySem.W.fnOf "_law_steps" "_law_steps" (defArgs s__law_steps) (defBody s__law_steps) (defScope s__law_steps) .none kV31 dc31 pm31 an31 cd31 ct31), sl31⟩)
    (f31c : PySem.W.codeIn K cd31 "_law_steps" = true)
    (f31k : PySem.W.keepIn K (.ref a31) = true)
    (f33a : PySem.W.nsIn K mainGlobals "_law_votes" = some (some (.ref a33)))
    (f33l : K.lookup a33 = some ⟨oc33, od33, .func (PySem.W.fnOf "_law_votes" "_law_votes" (defArgs s__law_votes) (defBody s__law_votes) (defScope s__law_votes) .none kV33 dc33 pm33 an33 cd33 ct33), sl33⟩)
    (f33c : PySem.W.codeIn K cd33 "_law_votes" = true)
    (f33k : PySem.W.keepIn K (.ref a33) = true)
    (f24a : PySem.W.nsIn K mainGlobals "wrong_on" = some (some (.ref a24)))
    (f24l : K.lookup a24 = some ⟨oc24, od24, .func (PySem.W.fnOf "wrong_on" "wrong_on" (defArgs s_wrong_on) (defBody s_wrong_on) (defScope s_wrong_on) .none kV24 dc24 pm24 an24 cd24 ct24), sl24⟩)
    (f24c : PySem.W.codeIn K cd24 "wrong_on" = true)
    (f24k : PySem.W.keepIn K (.ref a24) = true)
    (f32a : PySem.W.nsIn K mainGlobals "_law_broken" = some (some (.ref a32)))
    (f32l : K.lookup a32 = some ⟨oc32, od32, .func (PySem.W.fnOf "_law_broken" "_law_broken" (defArgs s__law_broken) (defBody s__law_broken) (defScope s__law_broken) .none kV32 dc32 pm32 an32 cd32 ct32), sl32⟩)
    (f32c : PySem.W.codeIn K cd32 "_law_broken" = true)
    (f32k : PySem.W.keepIn K (.ref a32) = true)
    (f36a : PySem.W.nsIn K mainGlobals "law" = some (some (.ref a36)))
    (f36l : K.lookup a36 = some ⟨oc36, od36, .func (PySem.W.fnOf "law" "law" (defArgs s_law) (defBody s_law) (defScope s_law) .none kV36 dc36 pm36 an36 cd36 ct36), sl36⟩)
    (f36c : PySem.W.codeIn K cd36 "law" = true)
    (f36k : PySem.W.keepIn K (.ref a36) = true)
    (z_len : PySem.W.nsIn K mainGlobals "len" = some none)
    (z_int : PySem.W.nsIn K mainGlobals "int" = some none)
    (z_range : PySem.W.nsIn K mainGlobals "range" = some none)
    (z_tuple : PySem.W.nsIn K mainGlobals "tuple" = some none)
    (z_list : PySem.W.nsIn K mainGlobals "list" = some none)
    (z_isinstance : PySem.W.nsIn K mainGlobals "isinstance" = some none)
    (z_bool : PySem.W.nsIn K mainGlobals "bool" = some none)
    (z_all : PySem.W.nsIn K mainGlobals "all" = some none)
    (z_enumerate : PySem.W.nsIn K mainGlobals "enumerate" = some none)
    (z_reversed : PySem.W.nsIn K mainGlobals "reversed" = some none)
    (z_zip : PySem.W.nsIn K mainGlobals "zip" = some none)
    (z_sum : PySem.W.nsIn K mainGlobals "sum" = some none)
    (z_max : PySem.W.nsIn K mainGlobals "max" = some none)
    (z_min : PySem.W.nsIn K mainGlobals "min" = some none)
    (z_repr : PySem.W.nsIn K mainGlobals "repr" = some none)
    (z_abs : PySem.W.nsIn K mainGlobals "abs" = some none)
    (g_MOST_PRIME : PySem.W.nsIn K mainGlobals "MOST_PRIME" = some (some (.int 101 t_MOST_PRIME)))
    (g_MOST_DEGREE : PySem.W.nsIn K mainGlobals "MOST_DEGREE" = some (some (.int 4 t_MOST_DEGREE)))
    (g_MOST_NUMBERS : PySem.W.nsIn K mainGlobals "MOST_NUMBERS" = some (some (.int 5 t_MOST_NUMBERS)))
    (x1a : PySem.W.nsIn K mainGlobals "InvalidNumber" = some (some (.ref C1)))
    (x1l : K.lookup C1 = some (excClassObj nm1 q1 C1 N1 bs1 bm1 true sn1 sub1 ab1 col1 dd1 m0_1 m1_1 m2_1 m3_1 m5_1 "ValueError.__new__"))
    (x1b : PySem.HandSPX.refsVE bm1 = true)
    (x1s : PySem.W.findIn K (.ref C1) "__setattr__" = some (some (.builtin "object.__setattr__")))
    (x1e : PySem.W.subIn K (.ref C1) (.type "BaseException") = some true)
    (x1t : PySem.W.typeIn K (.ref C1) = some (.type "type"))
    (x1k : PySem.W.keepIn K (.ref C1) = true)
    (x1i : PySem.W.findIn K (.ref C1) "__init__" = some (some (.ref a0)))
    (x1f : PySem.W.typeIn K (.ref a0) = some (.type "function"))
    (x1n_value : PySem.W.findIn K (.ref C1) "value" = some none)
    (x2a : PySem.W.nsIn K mainGlobals "InvalidMap" = some (some (.ref C2)))
    (x2l : K.lookup C2 = some (excClassObj nm2 q2 C2 N2 bs2 bm2 true sn2 sub2 ab2 col2 dd2 m0_2 m1_2 m2_2 m3_2 m5_2 "ValueError.__new__"))
    (x2b : PySem.HandSPX.refsVE bm2 = true)
    (x2s : PySem.W.findIn K (.ref C2) "__setattr__" = some (some (.builtin "object.__setattr__")))
    (x2e : PySem.W.subIn K (.ref C2) (.type "BaseException") = some true)
    (x2t : PySem.W.typeIn K (.ref C2) = some (.type "type"))
    (x2k : PySem.W.keepIn K (.ref C2) = true)
    (x2i : PySem.W.findIn K (.ref C2) "__init__" = some (some (.ref a1)))
    (x2f : PySem.W.typeIn K (.ref a1) = some (.type "function"))
    (x2n_value : PySem.W.findIn K (.ref C2) "value" = some none)
    : ∃ (c : Ck) (fd : FuncData), c.ex = none ∧ (∀ (s : Shared) (u : Value), BindsTo s fd ⟨[u], []⟩ [("_law_script", u)]) ∧ ∀ base : Heap, K.In base → base.Ns mainGlobals mg → FnS c PySem.Challenge.rw_sevenninths_k55_whole_one_curve.prog w K mg base 10 fl fd ["_law_script"] m_law := by
  cases hfl.symm.trans (PySem.W.mg_of X G f36a)
  let c : Ck := Ck.mk (fun n => match n with
    | 0 => C0
    | 1 => C1
    | 2 => C2
    | _ => 0) none
  let fa : Nat → Addr := fun n => match n with
    | 26 => a26
    | 27 => a27
    | 29 => a29
    | 30 => a30
    | 28 => a28
    | 34 => a34
    | 2 => a2
    | 3 => a3
    | 7 => a7
    | 0 => a0
    | 8 => a8
    | 4 => a4
    | 5 => a5
    | 1 => a1
    | 9 => a9
    | 10 => a10
    | 17 => a17
    | 16 => a16
    | 19 => a19
    | 18 => a18
    | 6 => a6
    | 11 => a11
    | 12 => a12
    | 14 => a14
    | 20 => a20
    | 21 => a21
    | 35 => a35
    | 25 => a25
    | 13 => a13
    | 15 => a15
    | 22 => a22
    | 23 => a23
    | 31 => a31
    | 33 => a33
    | 24 => a24
    | 32 => a32
    | 36 => fl
    | _ => 0
  let fd : Nat → FuncData := fun n => match n with
    | 26 => PySem.W.fnOf "_law_take" "_law_take" (defArgs s__law_take) (defBody s__law_take) (defScope s__law_take) .none kV26 dc26 pm26 an26 cd26 ct26
    | 27 => PySem.W.fnOf "_law_prime" "_law_prime" (defArgs s__law_prime) (defBody s__law_prime) (defScope s__law_prime) .none kV27 dc27 pm27 an27 cd27 ct27
    | 29 => PySem.W.fnOf "_law_curve" "_law_curve" (defArgs s__law_curve) (defBody s__law_curve) (defScope s__law_curve) .none kV29 dc29 pm29 an29 cd29 ct29
    | 30 => PySem.W.fnOf "_law_turned" "_law_turned" (defArgs s__law_turned) (defBody s__law_turned) (defScope s__law_turned) .none kV30 dc30 pm30 an30 cd30 ct30
    | 28 => PySem.W.fnOf "_law_value" "_law_value" (defArgs s__law_value) (defBody s__law_value) (defScope s__law_value) .none kV28 dc28 pm28 an28 cd28 ct28
    | 34 => PySem.W.fnOf "_law_near" "_law_near" (defArgs s__law_near) (defBody s__law_near) (defScope s__law_near) .none kV34 dc34 pm34 an34 cd34 ct34
    | 2 => PySem.W.fnOf "is_integer" "is_integer" (defArgs s_is_integer) (defBody s_is_integer) (defScope s_is_integer) .none kV2 dc2 pm2 an2 cd2 ct2
    | 3 => PySem.W.fnOf "is_number" "is_number" (defArgs s_is_number) (defBody s_is_number) (defScope s_is_number) .none kV3 dc3 pm3 an3 cd3 ct3
    | 7 => PySem.W.fnOf "is_prime" "is_prime" (defArgs s_is_prime) (defBody s_is_prime) (defScope s_is_prime) .none kV7 dc7 pm7 an7 cd7 ct7
    | 0 => PySem.W.fnOf "__init__" "InvalidNumber.__init__" (defArgs s_InvalidNumber_init) (defBody s_InvalidNumber_init) (defScope s_InvalidNumber_init) .none kV0 dc0 pm0 an0 cd0 ct0
    | 8 => PySem.W.fnOf "check_prime" "check_prime" (defArgs s_check_prime) (defBody s_check_prime) (defScope s_check_prime) .none kV8 dc8 pm8 an8 cd8 ct8
    | 4 => PySem.W.fnOf "is_below" "is_below" (defArgs s_is_below) (defBody s_is_below) (defScope s_is_below) .none kV4 dc4 pm4 an4 cd4 ct4
    | 5 => PySem.W.fnOf "row_below" "row_below" (defArgs s_row_below) (defBody s_row_below) (defScope s_row_below) .none kV5 dc5 pm5 an5 cd5 ct5
    | 1 => PySem.W.fnOf "__init__" "InvalidMap.__init__" (defArgs s_InvalidMap_init) (defBody s_InvalidMap_init) (defScope s_InvalidMap_init) .none kV1 dc1 pm1 an1 cd1 ct1
    | 9 => PySem.W.fnOf "check_table" "check_table" (defArgs s_check_table) (defBody s_check_table) (defScope s_check_table) .none kV9 dc9 pm9 an9 cd9 ct9
    | 10 => PySem.W.fnOf "check_degree" "check_degree" (defArgs s_check_degree) (defBody s_check_degree) (defScope s_check_degree) .none kV10 dc10 pm10 an10 cd10 ct10
    | 17 => PySem.W.fnOf "times_less" "times_less" (defArgs s_times_less) (defBody s_times_less) (defScope s_times_less) .none kV17 dc17 pm17 an17 cd17 ct17
    | 16 => PySem.W.fnOf "inverse_of" "inverse_of" (defArgs s_inverse_of) (defBody s_inverse_of) (defScope s_inverse_of) .none kV16 dc16 pm16 an16 cd16 ct16
    | 19 => PySem.W.fnOf "value_of" "value_of" (defArgs s_value_of) (defBody s_value_of) (defScope s_value_of) .none kV19 dc19 pm19 an19 cd19 ct19
    | 18 => PySem.W.fnOf "curve_through" "curve_through" (defArgs s_curve_through) (defBody s_curve_through) (defScope s_curve_through) .none kV18 dc18 pm18 an18 cd18 ct18
    | 6 => PySem.W.fnOf "ways_of" "ways_of" (defArgs s_ways_of) (defBody s_ways_of) (defScope s_ways_of) .none kV6 dc6 pm6 an6 cd6 ct6
    | 11 => PySem.W.fnOf "factors_of" "factors_of" (defArgs s_factors_of) (defBody s_factors_of) (defScope s_factors_of) .none kV11 dc11 pm11 an11 cd11 ct11
    | 12 => PySem.W.fnOf "step_sum" "step_sum" (defArgs s_step_sum) (defBody s_step_sum) (defScope s_step_sum) .none kV12 dc12 pm12 an12 cd12 ct12
    | 14 => PySem.W.fnOf "step_votes" "step_votes" (defArgs s_step_votes) (defBody s_step_votes) (defScope s_step_votes) .none kV14 dc14 pm14 an14 cd14 ct14
    | 20 => PySem.W.fnOf "places_apart" "places_apart" (defArgs s_places_apart) (defBody s_places_apart) (defScope s_places_apart) .none kV20 dc20 pm20 an20 cd20 ct20
    | 21 => PySem.W.fnOf "close_curve" "close_curve" (defArgs s_close_curve) (defBody s_close_curve) (defScope s_close_curve) .none kV21 dc21 pm21 an21 cd21 ct21
    | 35 => PySem.W.fnOf "_law_is_small" "_law_is_small" (defArgs s__law_is_small) (defBody s__law_is_small) (defScope s__law_is_small) .none kV35 dc35 pm35 an35 cd35 ct35
    | 25 => PySem.W.fnOf "_law_draws" "_law_draws" (defArgs s__law_draws) (defBody s__law_draws) (defScope s__law_draws) .none kV25 dc25 pm25 an25 cd25 ct25
    | 13 => PySem.W.fnOf "broken_steps" "broken_steps" (defArgs s_broken_steps) (defBody s_broken_steps) (defScope s_broken_steps) .none kV13 dc13 pm13 an13 cd13 ct13
    | 15 => PySem.W.fnOf "is_near" "is_near" (defArgs s_is_near) (defBody s_is_near) (defScope s_is_near) .none kV15 dc15 pm15 an15 cd15 ct15
    | 22 => PySem.W.fnOf "is_curve" "is_curve" (defArgs s_is_curve) (defBody s_is_curve) (defScope s_is_curve) .none kV22 dc22 pm22 an22 cd22 ct22
    | 23 => PySem.W.fnOf "value_at" "value_at" (defArgs s_value_at) (defBody s_value_at) (defScope s_value_at) .none kV23 dc23 pm23 an23 cd23 ct23
    | 31 => PySem.W.fnOf "_law_steps" "_law_steps" (defArgs s__law_steps) (defBody s__law_steps) (defScope s__law_steps) .none kV31 dc31 pm31 an31 cd31 ct31
    | 33 => PySem.W.fnOf "_law_votes" "_law_votes" (defArgs s__law_votes) (defBody s__law_votes) (defScope s__law_votes) .none kV33 dc33 pm33 an33 cd33 ct33
    | 24 => PySem.W.fnOf "wrong_on" "wrong_on" (defArgs s_wrong_on) (defBody s_wrong_on) (defScope s_wrong_on) .none kV24 dc24 pm24 an24 cd24 ct24
    | 32 => PySem.W.fnOf "_law_broken" "_law_broken" (defArgs s__law_broken) (defBody s__law_broken) (defScope s__law_broken) .none kV32 dc32 pm32 an32 cd32 ct32
    | 36 => PySem.W.fnOf "law" "law" (defArgs s_law) (defBody s_law) (defScope s_law) .none kV36 dc36 pm36 an36 cd36 ct36
    | _ => PySem.W.fnOf "law" "law" (defArgs s_law) (defBody s_law) (defScope s_law) .none kV36 dc36 pm36 an36 cd36 ct36
  have T : Txt K mg c fa fd := {
    ex := rfl
    tab := ⟨(fun _ z => absurd z List.not_mem_nil), (fun _ z => absurd z List.not_mem_nil)⟩
    b_len := PySem.W.mg_none_of X G z_len
    b_int := PySem.W.mg_none_of X G z_int
    b_range := PySem.W.mg_none_of X G z_range
    b_tuple := PySem.W.mg_none_of X G z_tuple
    b_list := PySem.W.mg_none_of X G z_list
    b_isinstance := PySem.W.mg_none_of X G z_isinstance
    b_bool := PySem.W.mg_none_of X G z_bool
    b_all := PySem.W.mg_none_of X G z_all
    b_enumerate := PySem.W.mg_none_of X G z_enumerate
    b_reversed := PySem.W.mg_none_of X G z_reversed
    b_zip := PySem.W.mg_none_of X G z_zip
    b_sum := PySem.W.mg_none_of X G z_sum
    b_max := PySem.W.mg_none_of X G z_max
    b_min := PySem.W.mg_none_of X G z_min
    b_repr := PySem.W.mg_none_of X G z_repr
    b_abs := PySem.W.mg_none_of X G z_abs
    g_MOST_PRIME := ⟨_, PySem.W.mg_of X G g_MOST_PRIME⟩
    g_MOST_DEGREE := ⟨_, PySem.W.mg_of X G g_MOST_DEGREE⟩
    g_MOST_NUMBERS := ⟨_, PySem.W.mg_of X G g_MOST_NUMBERS⟩
    f__law_take := Fd.mk' X G f26a f26l f26c f26k (fun _ _ _ _ _ _ us hl => match us, hl with | [_, _], _ => rfl)
    f__law_prime := Fd.mk' X G f27a f27l f27c f27k (fun _ _ _ _ _ _ us hl => match us, hl with | [_, _], _ => rfl)
    f__law_curve := Fd.mk' X G f29a f29l f29c f29k (fun _ _ _ _ _ _ us hl => match us, hl with | [_, _, _], _ => rfl)
    f__law_turned := Fd.mk' X G f30a f30l f30c f30k (fun _ _ _ _ _ _ us hl => match us, hl with | [_, _, _, _], _ => rfl)
    f__law_value := Fd.mk' X G f28a f28l f28c f28k (fun _ _ _ _ _ _ us hl => match us, hl with | [_, _, _], _ => rfl)
    f__law_near := Fd.mk' X G f34a f34l f34c f34k (fun _ _ _ _ _ _ us hl => match us, hl with | [_, _, _], _ => rfl)
    f_is_integer := Fd.mk' X G f2a f2l f2c f2k (fun _ _ _ _ _ _ us hl => match us, hl with | [_], _ => rfl)
    f_is_number := Fd.mk' X G f3a f3l f3c f3k (fun _ _ _ _ _ _ us hl => match us, hl with | [_], _ => rfl)
    f_is_prime := Fd.mk' X G f7a f7l f7c f7k (fun _ _ _ _ _ _ us hl => match us, hl with | [_, _], _ => rfl)
    x_InvalidNumber := ⟨fun_mk (st := s_InvalidNumber_init) f0l f0c f0k, (fun_mk (st := s_InvalidNumber_init) f0l f0c f0k).binds (fun _ _ _ _ _ _ us hl => match us, hl with | [_, _], _ => rfl), PySem.W.mg_of X G x1a, oex_mk x1l x1b x1s x1e x1t x1k, x1i, x1f⟩
    n_InvalidNumber_value := x1n_value
    f_check_prime := Fd.mk' X G f8a f8l f8c f8k (fun _ _ _ _ _ _ us hl => match us, hl with | [_], _ => rfl)
    f_is_below := Fd.mk' X G f4a f4l f4c f4k (fun _ _ _ _ _ _ us hl => match us, hl with | [_, _], _ => rfl)
    f_row_below := Fd.mk' X G f5a f5l f5c f5k (fun _ _ _ _ _ _ us hl => match us, hl with | [_, _, _], _ => rfl)
    x_InvalidMap := ⟨fun_mk (st := s_InvalidMap_init) f1l f1c f1k, (fun_mk (st := s_InvalidMap_init) f1l f1c f1k).binds (fun _ _ _ _ _ _ us hl => match us, hl with | [_, _], _ => rfl), PySem.W.mg_of X G x2a, oex_mk x2l x2b x2s x2e x2t x2k, x2i, x2f⟩
    n_InvalidMap_value := x2n_value
    f_check_table := Fd.mk' X G f9a f9l f9c f9k (fun _ _ _ _ _ _ us hl => match us, hl with | [_, _], _ => rfl)
    f_check_degree := Fd.mk' X G f10a f10l f10c f10k (fun _ _ _ _ _ _ us hl => match us, hl with | [_, _, _], _ => rfl)
    f_times_less := Fd.mk' X G f17a f17l f17c f17k (fun _ _ _ _ _ _ us hl => match us, hl with | [_, _, _], _ => rfl)
    f_inverse_of := Fd.mk' X G f16a f16l f16c f16k (fun _ _ _ _ _ _ us hl => match us, hl with | [_, _], _ => rfl)
    f_value_of := Fd.mk' X G f19a f19l f19c f19k (fun _ _ _ _ _ _ us hl => match us, hl with | [_, _, _], _ => rfl)
    f_curve_through := Fd.mk' X G f18a f18l f18c f18k (fun _ _ _ _ _ _ us hl => match us, hl with | [_, _], _ => rfl)
    f_ways_of := Fd.mk' X G f6a f6l f6c f6k (fun _ _ _ _ _ _ us hl => match us, hl with | [_], _ => rfl)
    f_factors_of := Fd.mk' X G f11a f11l f11c f11k (fun _ _ _ _ _ _ us hl => match us, hl with | [_], _ => rfl)
    f_step_sum := Fd.mk' X G f12a f12l f12c f12k (fun _ _ _ _ _ _ us hl => match us, hl with | [_, _, _, _, _], _ => rfl)
    f_step_votes := Fd.mk' X G f14a f14l f14c f14k (fun _ _ _ _ _ _ us hl => match us, hl with | [_, _, _, _], _ => rfl)
    f_places_apart := Fd.mk' X G f20a f20l f20c f20k (fun _ _ _ _ _ _ us hl => match us, hl with | [_, _, _], _ => rfl)
    f_close_curve := Fd.mk' X G f21a f21l f21c f21k (fun _ _ _ _ _ _ us hl => match us, hl with | [_, _, _], _ => rfl)
    f__law_is_small := Fd.mk' X G f35a f35l f35c f35k (fun _ _ _ _ _ _ us hl => match us, hl with | [_], _ => rfl)
    f__law_draws := Fd.mk' X G f25a f25l f25c f25k (fun _ _ _ _ _ _ us hl => match us, hl with | [_, _], _ => rfl)
    f_broken_steps := Fd.mk' X G f13a f13l f13c f13k (fun _ _ _ _ _ _ us hl => match us, hl with | [_, _, _], _ => rfl)
    f_is_near := Fd.mk' X G f15a f15l f15c f15k (fun _ _ _ _ _ _ us hl => match us, hl with | [_, _, _], _ => rfl)
    f_is_curve := Fd.mk' X G f22a f22l f22c f22k (fun _ _ _ _ _ _ us hl => match us, hl with | [_, _], _ => rfl)
    f_value_at := Fd.mk' X G f23a f23l f23c f23k (fun _ _ _ _ _ _ us hl => match us, hl with | [_, _, _], _ => rfl)
    f__law_steps := Fd.mk' X G f31a f31l f31c f31k (fun _ _ _ _ _ _ us hl => match us, hl with | [_], _ => rfl)
    f__law_votes := Fd.mk' X G f33a f33l f33c f33k (fun _ _ _ _ _ _ us hl => match us, hl with | [_, _, _, _], _ => rfl)
    f_wrong_on := Fd.mk' X G f24a f24l f24c f24k (fun _ _ _ _ _ _ us hl => match us, hl with | [_, _, _], _ => rfl)
    f__law_broken := Fd.mk' X G f32a f32l f32c f32k (fun _ _ _ _ _ _ us hl => match us, hl with | [_, _, _], _ => rfl)
    f_law := Fd.mk' X G f36a f36l f36c f36k (fun _ _ _ _ _ _ us hl => match us, hl with | [_], _ => rfl)
  }
  exact ⟨c, fd 36, rfl, fun s u => .of_eq rfl, fun base _ _ => ok_law T⟩
end Pm
namespace Pm
open PySem PySem.Spec L2 PyProof.Rows
/-! ### the draws -/
theorem at0 {α : Type} (h : List α) (a b : α) : (h ++ [a, b])[h.length]? = some a := by simp
theorem at1 {α : Type} (h : List α) (a b : α) : (h ++ [a, b])[h.length + 1]? = some b := by simp
theorem st0 {α : Type} (h : List α) (a b c : α) : (h ++ [a, b]).set h.length c = h ++ [c, b] := by simp
theorem st1 {α : Type} (h : List α) (a b c : α) : (h ++ [a, b]).set (h.length + 1) c = h ++ [a, c] := by simp
abbrev small (d : Int) : Prop := 0 ≤ d ∧ d < 2147483648
theorem pow18 {h : VH} : powP (.int 10) (.int 18) h = .ok (.int 1000000000000000000) h :=
  (int2_ok (gp := fun i j => .int (i ^ j.toNat)) (⟨by decide, by decide, by decide⟩ : CPow 10 18)).trans rfl
theorem rngL_get {lo : Int} {n i : Nat} {x : PV} (h : (rngL lo n)[i]? = some x) : i < n ∧ x = .int (lo + i) := by
  have hi : i < n := by
    have := (List.getElem?_eq_some_iff.mp h).1
    simpa using this
  simp only [rngL, List.getElem?_map, List.getElem?_range hi] at h
  exact ⟨hi, by cases h; rfl⟩
theorem mod_small {a b : Int} (h : 0 < b) (hb : b ≤ 2147483648) : small (a % b) := ⟨Int.emod_nonneg _ (by omega), by have := Int.emod_lt_of_pos a h; omega⟩
theorem m_draws_eq (ns : List Int) (hl : ns.length ≤ 63) (many : Nat) (hm : many ≤ 100000) (h : VH) :
    ∃ ds : List Int, ds.length = many ∧ (∀ d ∈ ds, small d) ∧ m__law_draws [.scr (ns.map PV.int), .int (many : Nat)] h = .ok (.lst (ds.map PV.int)) h := by
  unfold m__law_draws
  rw [fnRun_go (σ := [some (.scr (ns.map PV.int)), some (.int (many : Nat)), none, none, none, none, none, none]) _ _ _ _ rfl]
  have hc := compL_ints (ck := []) (ws := [3]) (gm := gSlot 3) (mt := tYesM) (me := eCall (one absP) (aCons (eCall (one intP) (aCons (eVar 3) aNil)) aNil)) (σ := [some (.scr (ns.map PV.int)), some (.int (many : Nat)), none, none, none, none, none, none]) (f := fun i => if i < 0 then -i else i) (ns := ns) (h := h) (by simp)
    (fun n _ => ⟨_, rfl, rfl, by simp only [pmS, wipeL]⟩) (by omega)
  have hr := fun h => srcRng1 (j := (many : Int)) (h := h) (by omega)
  simp only [pmS, hc, hr, Int.toNat_natCast, List.length_append, List.length_singleton, List.append_assoc, List.singleton_append]
  refine for_go (R := fun r => ∃ ds : List Int, ds.length = many ∧ (∀ d ∈ ds, small d) ∧ fin h (r.bind (sRet (eFrz (eVar 4)))) = .ok (.lst (ds.map PV.int)) h)
    (fun i σ h' => ∃ ds rs : List Int, ∃ a b c d, ds.length = i ∧ (∀ d ∈ ds, small d) ∧ rs.length = ns.length ∧ h' = h ++ [.lst (rs.map PV.int), .lst (ds.map PV.int)] ∧ σ = [some (.scr (ns.map PV.int)), some (.int (many : Nat)), some (.ref h.length), a, some (.ref (h.length + 1)), b, c, d])
    ⟨[], _, none, none, none, none, rfl, by simp, by simp, rfl, rfl⟩ ?_ ?_
  · rintro i x σ h' hx ⟨ds, rs, a, b, c, d, el, hs, er, rfl, rfl⟩
    obtain ⟨hi, rfl⟩ := rngL_get hx
    refine ⟨by simp, _, _, rfl, ?_⟩
    have push : ∀ (v : Int) (a b c d : Option PV) (rs' : List Int), small v → rs'.length = ns.length → ∃ ds' rs : List Int, ∃ a' b' c' d', ds'.length = i + 1 ∧ (∀ d ∈ ds', small d) ∧ rs.length = ns.length ∧ h ++ [.lst (rs'.map PV.int), .lst (ds.map PV.int ++ [.int v])] = h ++ [.lst (rs.map PV.int), .lst (ds'.map PV.int)] ∧
        [some (.scr (ns.map PV.int)), some (.int (many : Nat)), some (.ref h.length), a, some (.ref (h.length + 1)), b, c, d] = [some (.scr (ns.map PV.int)), some (.int (many : Nat)), some (.ref h.length), a', some (.ref (h.length + 1)), b', c', d'] := fun v a b c d rs' hv hr' =>
      ⟨ds ++ [v], rs', a, b, c, d, by simp [el], fun z hz => by rcases List.mem_append.mp hz with q | q; exact hs z q; rw [List.mem_singleton.mp q]; exact hv, hr', by simp, rfl⟩
    have app : ∀ (v : Int) (rs' : List Int), appendP (.ref (h.length + 1)) [.int v] (h ++ [.lst (rs'.map PV.int), .lst (ds.map PV.int)]) = .ok .non (h ++ [.lst (rs'.map PV.int), .lst (ds.map PV.int ++ [.int v])]) := fun v rs' => by
      rw [appendP_ok (at1 _ _ _) (by rw [List.length_map]; omega), st1]
    have lm : ∀ (rs' : List Int) (f : PV → List PV → VH → Res PV) (ms : AM) (σ : LS), lstMt (.ref (h.length + 1)) ms σ (h ++ [.lst (rs'.map PV.int), .lst (ds.map PV.int)]) f = (ms σ (h ++ [.lst (rs'.map PV.int), .lst (ds.map PV.int)])).bind fun xs h1 => f (.ref (h.length + 1)) xs h1 := fun rs' f ms σ => lstMt_ok (lstOf_ref (at1 _ _ _))
    have ml : ∀ (x y : Int) (h : VH), -(2 ^ 64) < y → y < 2 ^ 64 → mulP false (.int x) (.int y) h = .ok (.int (x * y)) h := fun x y h a b => mulP_r a b
    have mm : ∀ (x m y : Int) (h : VH), 0 < m → m < 2 ^ 64 → mulP false (.int (x % m)) (.int y) h = .ok (.int (x % m * y)) h := fun x m y h a b => mulP_l (by have := Int.emod_nonneg x (show m ≠ 0 by omega); omega) (by have := Int.emod_lt_of_pos x a; omega)
    have sm1 : ∀ x : Int, small (x % 2147483629) := fun x => mod_small (by omega) (by omega)
    have sm2 : ∀ x : Int, small (x % 1000003) := fun x => mod_small (by omega) (by omega)
    by_cases h0 : ns.length = 0
    · have : ¬ (0 : Int) < (ns.length : Int) := by omega
      simp only [pmS, List.length_map, this, decide_false, if_false, ml, mm, divP_pos, modP_pos, lm, app, Int.reduceLT, Int.reduceNeg, Int.reducePow, Bool.false_eq_true, Turn'_nx]
      exact push _ _ _ _ _ _ (sm1 _) er
    · have hpos : (0 : Int) < (ns.length : Int) := by omega
      obtain ⟨n, hn⟩ : ∃ n : Nat, n = i % ns.length := ⟨_, rfl⟩
      have hn2 : n < ns.length := by rw [hn]; exact Nat.mod_lt _ (by omega)
      have e1 : (0 + (i : Int)) % (ns.length : Int) = (n : Int) := by rw [hn]; simp
      have g1 : ∀ h, ixP (.scr (ns.map PV.int)) (.int (n : Int)) h = .ok (.int ns[n]) h := fun h => ixP_scr (by omega) (by simp [hn2])
      have hr2 : n < rs.length := by omega
      have g2 : ixP (.ref h.length) (.int (n : Int)) (h ++ [.lst (rs.map PV.int), .lst (ds.map PV.int)]) = .ok (.int rs[n]) (h ++ [.lst (rs.map PV.int), .lst (ds.map PV.int)]) := ixP_ref (at0 _ _ _) (by omega) (by simp [hr2])
      have g3 : ∀ v, ixP (.ref h.length) (.int (n : Int)) (h ++ [.lst (rs.map PV.int), .lst (ds.map PV.int ++ [v])]) = .ok (.int rs[n]) (h ++ [.lst (rs.map PV.int), .lst (ds.map PV.int ++ [v])]) := fun v => ixP_ref (at0 _ _ _) (by omega) (by simp [hr2])
      by_cases hb : (1000000000000000000 : Int) ≤ ns[n] ∧ 0 < rs[n]
      · have st : ∀ v w, setP (.ref h.length) (.int (n : Int)) (.int w) (h ++ [.lst (rs.map PV.int), .lst (ds.map PV.int ++ [v])]) = .ok () (h ++ [.lst ((rs.set n w).map PV.int), .lst (ds.map PV.int ++ [v])]) := fun v w => by
          rw [setP_ok (at0 _ _ _) (ixN_nat (by simpa using hr2)), st0, List.map_set]
        simp only [pmS, List.length_map, hpos, decide_true, if_true, modP_pos, e1, g1, g2, g3, pow18, hb.1, hb.2, divP_pos, lm, app, st, Int.reduceLT, Turn'_ct]
        exact push _ _ _ _ _ _ (sm2 _) (by simpa using er)
      · by_cases hb1 : (1000000000000000000 : Int) ≤ ns[n]
        · have hb2 : ¬ 0 < rs[n] := fun z => hb ⟨hb1, z⟩
          simp only [pmS, List.length_map, hpos, decide_true, if_true, modP_pos, e1, g1, g2, g3, pow18, hb1, hb2, decide_false, if_false, ml, mm, divP_pos, lm, app, Int.reduceLT, Int.reduceNeg, Int.reducePow, Bool.false_eq_true, Turn'_nx]
          exact push _ _ _ _ _ _ (sm1 _) er
        · simp only [pmS, List.length_map, hpos, decide_true, if_true, modP_pos, e1, g1, g2, g3, pow18, hb1, decide_false, if_false, ml, mm, divP_pos, lm, app, Int.reduceLT, Int.reduceNeg, Int.reducePow, Bool.false_eq_true, Turn'_nx]
          exact push _ _ _ _ _ _ (sm1 _) er
  · rintro σ h' ⟨ds, rs, a, b, c, d, el, hs, er, rfl, rfl⟩
    refine ⟨by simp, ds, by simpa using el, hs, ?_⟩
    simp only [pmS, frzP_lst (at1 _ _ _), st1]
    rw [show fin h (.rt (.lst (ds.map PV.int)) (h ++ [.lst (rs.map PV.int), .dead])) = gc h (.lst (ds.map PV.int)) (h ++ [.lst (rs.map PV.int), .dead]) from rfl, gc_app (by simp)]
/-! ### the hand -/
abbrev handO (ds : List Int) (a : Nat) : PO := .lst [.lst (ds.map PV.int), .int (a : Int)]
theorem gc_st {h : VH} {i : Nat} {o : PO} {v : PV} (co : closedO h.length o) (cv : closedV h.length v) : gc h v (h.set i o) = .ok v (h.set i o) := by
  rw [gc_eq (gcOk_set (gcOk_same h) co) cv, List.take_of_length_le (by simp)]
theorem gc_stA {h j : VH} {i : Nat} {o : PO} {v : PV} (co : closedO h.length o) (cv : closedV h.length v) : gc h v (h.set i o ++ j) = .ok v (h.set i o) := by
  rw [gc_eq ?_ cv, List.take_left' (by simp)]
  intro k p hk e
  rw [List.getElem?_append_left (by simpa using hk)] at e
  exact gcOk_set (gcOk_same h) co k p hk e
theorem handO_closed {n : Nat} (ds : List Int) (a : Nat) : closedO n (handO ds a) := by simp [closedO]
def tk (ds : List Int) (a : Nat) (many : Int) : Int := if h : a < ds.length then ds[a] / 7 % many else 0
theorem tk_pos (ds : List Int) (a : Nat) {many : Int} (hm : 0 < many) : 0 ≤ tk ds a many := by
  unfold tk; split
  · exact Int.emod_nonneg _ (by omega)
  · omega
theorem tk_lt (ds : List Int) (a : Nat) {many : Int} (hm : 0 < many) : tk ds a many < many := by
  unfold tk; split
  · exact Int.emod_lt_of_pos _ hm
  · exact hm
theorem take_eq {h : VH} {i : Nat} {ds : List Int} {a : Nat} {many : Int} (e : h[i]? = some (handO ds a)) (hm : 0 < many) :
    m__law_take [.ref i, .int many] h = .ok (.int (tk ds a many)) (h.set i (handO ds (a + 1))) := by
  unfold m__law_take
  rw [fnRun_go (σ := [some (.ref i), some (.int many), none, none]) _ _ _ _ rfl]
  have hi : i < h.length := (List.getElem?_eq_some_iff.mp e).1
  have g1 : ixP (.ref i) (.int 1) h = .ok (.int (a : Int)) h := ixP_ref e (by omega) rfl
  have s1 : setP (.ref i) (.int 1) (.int ((a : Int) + 1)) h = .ok () (h.set i (handO ds (a + 1))) := setP_ok e (j := 1) rfl
  have e2 : (h.set i (handO ds (a + 1)))[i]? = some (handO ds (a + 1)) := by simp [hi]
  have g2 : ixP (.ref i) (.int 0) (h.set i (handO ds (a + 1))) = .ok (.lst (ds.map PV.int)) (h.set i (handO ds (a + 1))) := ixP_ref e2 (by omega) rfl
  by_cases hb : (ds.length : Int) ≤ (a : Int)
  · have : tk ds a many = 0 := dif_neg (by omega)
    rw [this]
    simp only [pmS, g1, s1, g2, List.length_map, hb, decide_true, if_true]
    exact gc_st (handO_closed _ _) (by simp)
  · have ha : a < ds.length := by omega
    have g3 : ∀ h, ixP (.lst (ds.map PV.int)) (.int (a : Int)) h = .ok (.int ds[a]) h := fun h => ixP_lst (by omega) (by simp [ha])
    have : tk ds a many = ds[a] / 7 % many := dif_pos ha
    rw [this]
    simp only [pmS, g1, s1, g2, g3, List.length_map, hb, decide_false, if_false, divP_pos, modP_pos hm, Int.reduceLT, Bool.false_eq_true]
    exact gc_st (handO_closed _ _) (by simp)
theorem take0 {ds : List Int} {a : Nat} {many : Int} (hm : 0 < many) : m__law_take [.ref 0, .int many] [handO ds a] = .ok (.int (tk ds a many)) [handO ds (a + 1)] := take_eq rfl hm
/-- so many draws below p -/
def tks (ds : List Int) (a : Nat) (p : Int) (n : Nat) : List Int := (List.range n).map fun k => tk ds (a + k) p
theorem tks_mem {ds : List Int} {a n : Nat} {p : Int} (hp : 0 < p) : ∀ x ∈ tks ds a p n, 0 ≤ x ∧ x < p := fun x hx => by
  obtain ⟨k, _, rfl⟩ := List.mem_map.mp hx
  exact ⟨tk_pos _ _ hp, tk_lt _ _ hp⟩
theorem tks_comp {ds : List Int} {a n : Nat} {p : Int} (hp : 0 < p) (hn : n ≤ 1000) {σ : LS} {ws : List Nat} {gm : GM} {me : EM} (hg : ∀ (x : Nat) (b : Nat), ∃ σ2, gm (.int (x : Int)) (wipeL σ ws) [handO ds b] = .ok σ2 [handO ds b] ∧ me σ2 [handO ds b] = .ok (.int (tk ds b p)) [handO ds (b + 1)]) :
    compL [] ws gm tYesM me σ (rngL 0 n) [] [handO ds a] = .ok ((tks ds a p n).map PV.int) [handO ds (a + n)] := by
  obtain ⟨acc, h', e, i1, i2⟩ := comp_go (ck := []) (ws := ws) (gm := gm) (mt := tYesM) (me := me) (σ := σ) (xs := rngL 0 n) (h := [handO ds a]) (fun i acc h => acc = (tks ds a p i).map PV.int ∧ h = [handO ds (a + i)]) ⟨rfl, rfl⟩
    (fun i x acc h hx ⟨e1, e2⟩ => by
      obtain ⟨hi, rfl⟩ := rngL_get hx
      subst e1 e2
      obtain ⟨σ2, g1, g2⟩ := hg i (a + i)
      refine ⟨by simp, σ2, _, true, _, by rw [Int.zero_add]; exact g1, rfl, ?_⟩
      rw [if_pos rfl]
      refine ⟨_, _, g2, by simp [tks]; omega, ?_, rfl⟩
      simp [tks, List.range_succ]) (fun acc h _ => by simp)
  rw [e, i1, i2, rngL_length]
theorem fin_hand {ds : List Int} {a b : Nat} {v : PV} {J : VH} (c : ∀ m, closedV m v) : fin [handO ds a] (.rt v (handO ds b :: J)) = .ok v [handO ds b] :=
  gc_stA (h := [handO ds a]) (j := J) (i := 0) (handO_closed _ _) (c _)
theorem tk_nat (ds : List Int) (a : Nat) {m : Nat} (hm : 0 < m) : ∃ z : Nat, z < m ∧ tk ds a (m : Int) = (z : Int) := by
  have w1 := tk_pos ds a (show (0 : Int) < (m : Int) by omega)
  have w2 := tk_lt ds a (show (0 : Int) < (m : Int) by omega)
  exact ⟨(tk ds a (m : Int)).toNat, by omega, by omega⟩
theorem takeH {ds : List Int} {a : Nat} {many : Int} {J : VH} (hm : 0 < many) : m__law_take [.ref 0, .int many] (handO ds a :: J) = .ok (.int (tk ds a many)) (handO ds (a + 1) :: J) := take_eq rfl hm
theorem fin_handJ {ds : List Int} {a b : Nat} {v : PV} {J K : VH} (c : ∀ m, closedV m v) : fin (handO ds a :: J) (.rt v (handO ds b :: (J ++ K))) = .ok v (handO ds b :: J) :=
  gc_stA (h := handO ds a :: J) (j := K) (i := 0) (handO_closed _ _) (c _)
theorem fin_handS {ds : List Int} {a b : Nat} {v : PV} {J : VH} (c : ∀ m, closedV m v) : fin (handO ds a :: J) (.rt v (handO ds b :: J)) = .ok v (handO ds b :: J) := by
  have := fin_handJ (ds := ds) (a := a) (b := b) (J := J) (K := []) c
  rwa [List.append_nil] at this
end Pm
namespace Pm
open PySem PySem.Spec L2 PyProof.Rows
/-! ### kinds of values -/
theorem is_integer_val {v : PV} (hk : (kd v).isSome) (h : VH) : m_is_integer [v] h = .ok (.bl (isIntV v)) h := by
  unfold m_is_integer
  rw [fnRun_go (σ := [some v]) _ _ _ _ rfl]
  cases v <;> first | (cases hk; done) | (simp only [pmS, isi_int_int, isi_int_bool, isi_bl_int, isi_bl_bool, isi_non_int, isi_str_int, isi_tup_int, isi_lst_int, isIntV, if_true, if_false, Bool.false_eq_true, Bool.not_false, Bool.not_true]; exact gc_same (by simp))
theorem is_number_val {v : PV} (hk : (kd v).isSome) (h : VH) : m_is_number [v] h = .ok (.bl (isNumV v)) h := by
  unfold m_is_number
  rw [fnRun_go (σ := [some v]) _ _ _ _ rfl]
  cases v <;> first | (cases hk; done) | (simp only [pmS, is_integer_val hk, isIntV, isNumV, if_true, if_false, Bool.false_eq_true]; exact gc_same (by simp))
theorem is_below_val {v : PV} (hk : (kd v).isSome) (b : Int) (h : VH) : m_is_below [v, .int b] h = .ok (.bl (isBelowV v b)) h := by
  unfold m_is_below
  rw [fnRun_go (σ := [some v, some (.int b)]) _ _ _ _ rfl]
  cases v with
  | int i =>
    simp only [pmS, is_integer_val (v := .int i) rfl, isIntV, isBelowV, if_true]
    by_cases q : 0 ≤ i
    · simp only [pmS, q, decide_true, if_true, true_and]; exact gc_same (by simp)
    · simp only [pmS, q, decide_false, if_false, false_and, Bool.false_eq_true]; exact gc_same (by simp)
  | _ => first | (cases hk; done) | (simp only [pmS, is_integer_val hk, isIntV, isBelowV, if_true, if_false, Bool.false_eq_true]; exact gc_same (by simp))
theorem row_below_val {v : PV} (hk : kdRow v) (n : Nat) (b : Int) (h : VH) : m_row_below [v, .int (n : Int), .int b] h = .ok (.bl (rowBelowV v n b)) h := by
  unfold m_row_below
  rw [fnRun_go (σ := [some v, some (.int (n : Int)), some (.int b), none]) _ _ _ _ rfl]
  cases v with
  | tup xs =>
    simp only [pmS, isi_tup_tup, if_false, Bool.false_eq_true, Bool.not_true]
    by_cases q : xs.length = n
    · have q1 : ¬ ((xs.length : Int) ≠ (n : Int)) := by omega
      simp only [rowBelowV, q, decide_true, Bool.true_and, Bool.not_true, Bool.false_eq_true, if_false, pmS]
      refine for_bind (fun i σ h' => h' = h ∧ (∃ a, σ = [some (.tup xs), some (.int (n : Int)), some (.int b), a]) ∧ (xs.take i).all (fun x => isBelowV x b) = true) ⟨rfl, ⟨none, rfl⟩, rfl⟩ ?_ ?_
      · rintro i x σ h' hx ⟨rfl, ⟨a, rfl⟩, ha⟩
        have hm := List.mem_of_getElem? hx
        have hi := (List.getElem?_eq_some_iff.mp hx).1
        refine ⟨by simp, _, _, rfl, ?_⟩
        simp only [pmS, is_below_val (hk x hm)]
        cases e : isBelowV x b with
        | true =>
          simp only [pmS, Bool.not_true, Bool.false_eq_true, if_false, Turn'_nx]
          refine ⟨trivial, ⟨_, rfl⟩, ?_⟩
          rw [List.take_succ, hx]
          simp only [Option.toList_some, List.all_append, ha, List.all_cons, e, List.all_nil, Bool.and_self]
        | false =>
          simp only [pmS, Bool.not_false, if_true, Turn'_rt]
          have : (xs.all fun x => isBelowV x b) = false := by
            cases z : xs.all fun x => isBelowV x b with
            | false => rfl
            | true => rw [List.all_eq_true] at z; rw [z x hm] at e; cases e
          rw [this]
          exact gc_same (by simp)
      · rintro σ h' ⟨rfl, ⟨a, rfl⟩, ha⟩
        rw [List.take_length] at ha
        refine ⟨by simp, ?_⟩
        simp only [pmS, ha]
        exact gc_same (by simp)
    · have : decide ((xs.length : Int) = (n : Int)) = false := decide_eq_false (by omega)
      simp only [rowBelowV, q, this, decide_false, Bool.not_false, if_true, pmS, Bool.false_and]
      exact gc_same (by simp)
  | _ => first | (cases hk; done) | (simp only [pmS, isi_int_tup, isi_bl_tup, isi_non_tup, isi_str_tup, isi_lst_tup, rowBelowV, Bool.not_false, if_true]; exact gc_same (by simp))
end Pm
namespace Pm
/-! ### sums over a range -/
def sm : Nat → (Nat → Int) → Int
  | 0, _ => 0
  | n + 1, f => sm n f + f n
theorem sm_congr : ∀ {n : Nat} {f g : Nat → Int}, (∀ i, i < n → f i = g i) → sm n f = sm n g
  | 0, _, _, _ => rfl
  | n + 1, f, g, h => by show sm n f + f n = sm n g + g n; rw [sm_congr fun i hi => h i (by omega), h n (by omega)]
theorem sm_le : ∀ {n : Nat} {f g : Nat → Int}, (∀ i, i < n → f i ≤ g i) → sm n f ≤ sm n g
  | 0, _, _, _ => Int.le_refl _
  | n + 1, f, g, h => by
    show sm n f + f n ≤ sm n g + g n
    have := sm_le (n := n) (f := f) (g := g) fun i hi => h i (by omega)
    have := h n (by omega); omega
theorem sm_add : ∀ (n : Nat) (f g : Nat → Int), sm n (fun i => f i + g i) = sm n f + sm n g
  | 0, _, _ => rfl
  | n + 1, f, g => by show sm n _ + (f n + g n) = (sm n f + f n) + (sm n g + g n); rw [sm_add n f g]; omega
theorem sm_neg : ∀ (n : Nat) (f : Nat → Int), sm n (fun i => -f i) = -sm n f
  | 0, _ => rfl
  | n + 1, f => by show sm n _ + -f n = -(sm n f + f n); rw [sm_neg n f]; omega
theorem sm_sub (n : Nat) (f g : Nat → Int) : sm n (fun i => f i - g i) = sm n f - sm n g := by
  have h1 := sm_add n f fun i => -g i
  have h2 := sm_neg n g
  have h3 : sm n (fun i => f i - g i) = sm n (fun i => f i + -g i) := sm_congr fun i _ => by omega
  omega
theorem sm_mul (c : Int) : ∀ (n : Nat) (f : Nat → Int), sm n (fun i => c * f i) = c * sm n f
  | 0, _ => (Int.mul_zero c).symm
  | n + 1, f => by show sm n _ + _ = c * (sm n f + f n); rw [sm_mul c n f, Int.mul_add]
theorem sm_mulr (c : Int) (n : Nat) (f : Nat → Int) : sm n (fun i => f i * c) = sm n f * c := by
  rw [Int.mul_comm, ← sm_mul]; exact sm_congr fun i _ => Int.mul_comm _ _
theorem sm_const (c : Int) : ∀ n : Nat, sm n (fun _ => c) = (n : Int) * c
  | 0 => by simp [sm]
  | n + 1 => by show sm n _ + c = _; rw [sm_const c n]; push_cast; rw [Int.add_mul, Int.one_mul]
theorem sm_zero {n : Nat} {f : Nat → Int} (h : ∀ i, i < n → f i = 0) : sm n f = 0 := by
  rw [sm_congr (g := fun _ => 0) h, sm_const, Int.mul_zero]
theorem sm_nonneg {n : Nat} {f : Nat → Int} (h : ∀ i, i < n → 0 ≤ f i) : 0 ≤ sm n f := by
  have := sm_le (f := fun _ => 0) h
  rwa [sm_const, Int.mul_zero] at this
theorem sm_swap (f : Nat → Nat → Int) : ∀ (n m : Nat), sm n (fun i => sm m (fun j => f i j)) = sm m (fun j => sm n (fun i => f i j))
  | 0, m => (sm_zero (n := m) fun _ _ => rfl).symm
  | n + 1, m => by
    show sm n _ + sm m (fun j => f n j) = sm m (fun j => sm n (fun i => f i j) + f n j)
    rw [sm_add, sm_swap f n m]
theorem sm_le_one_of {n : Nat} {f : Nat → Int} (h : ∀ i, i < n → 0 ≤ f i) (z : sm n f = 0) : ∀ i, i < n → f i = 0 := by
  induction n with
  | zero => intro i hi; omega
  | succ n ih =>
    have a : 0 ≤ sm n f := sm_nonneg fun i hi => h i (by omega)
    have b := h n (by omega)
    have z : sm n f + f n = 0 := z
    intro i hi
    by_cases e : i = n
    · subst e; omega
    · exact ih (fun i hi => h i (by omega)) (by omega) i (by omega)
theorem sm_one {n a : Nat} {f : Nat → Int} (ha : a < n) (z : ∀ i, i < n → i ≠ a → f i = 0) : sm n f = f a := by
  induction n with
  | zero => omega
  | succ n ih =>
    show sm n f + f n = f a
    by_cases e : a = n
    · subst e
      rw [sm_zero fun i hi => z i (by omega) (by omega)]; omega
    · rw [ih (by omega) fun i hi hn => z i (by omega) hn, z n (by omega) (fun q => e q.symm)]; omega
def del (a b : Nat) : Int := if a = b then 1 else 0
theorem del_same (a : Nat) : del a a = 1 := if_pos rfl
theorem del_ne {a b : Nat} (h : a ≠ b) : del a b = 0 := if_neg h
theorem sm_del {n a : Nat} (f : Nat → Int) (ha : a < n) : sm n (fun y => del a y * f y) = f a := by
  rw [sm_one ha fun i _ hn => by rw [del_ne fun q => hn q.symm, Int.zero_mul], del_same, Int.one_mul]
/-- one to one within the range -/
structure Inj (p : Nat) (π : Nat → Nat) : Prop where
  lt : ∀ i, i < p → π i < p
  inj : ∀ i j, i < p → j < p → π i = π j → i = j
theorem del_sum {p : Nat} {π : Nat → Nat} (h : Inj p π) (y : Nat) : ∀ n, n ≤ p → sm n (fun i => del (π i) y) ≤ 1
  | 0, _ => by show (0 : Int) ≤ 1; omega
  | n + 1, hn => by
    show sm n (fun i => del (π i) y) + del (π n) y ≤ 1
    by_cases e : π n = y
    · rw [sm_zero (n := n) (f := fun i => del (π i) y) fun i hi => del_ne fun q => by have := h.inj i n (by omega) (by omega) (q.trans e.symm); omega]
      rw [e, del_same]; omega
    · rw [del_ne e]; have := del_sum h y n (by omega); omega
theorem del_all {p : Nat} {π : Nat → Nat} (h : Inj p π) : ∀ y, y < p → sm p (fun i => del (π i) y) = 1 := by
  have t : sm p (fun y => 1 - sm p (fun i => del (π i) y)) = 0 := by
    rw [sm_sub, sm_swap, sm_const]
    rw [sm_congr (n := p) (g := fun _ => 1) fun i hi => ?_, sm_const]
    · omega
    · have := sm_del (n := p) (fun _ => 1) (h.lt i hi)
      simpa using this
  intro y hy
  have := sm_le_one_of (fun y _ => by have := del_sum h y p (Nat.le_refl _); omega) t y hy
  omega
theorem sm_inj {p : Nat} {π : Nat → Nat} (h : Inj p π) (f : Nat → Int) : sm p (fun i => f (π i)) = sm p f := by
  have e1 : sm p (fun i => f (π i)) = sm p (fun i => sm p (fun y => del (π i) y * f y)) := sm_congr fun i hi => (sm_del f (h.lt i hi)).symm
  rw [e1, sm_swap]
  refine sm_congr fun y hy => ?_
  rw [sm_mulr, del_all h y hy, Int.one_mul]
theorem Inj.onto {p : Nat} {π : Nat → Nat} (h : Inj p π) {y : Nat} (hy : y < p) : ∃ i, i < p ∧ π i = y := by
  refine Classical.byContradiction fun z => ?_
  have := del_all h y hy
  rw [sm_zero (f := fun i => del (π i) y) fun i hi => del_ne fun e => z ⟨i, hi, e⟩] at this
  omega
theorem inj_add {p : Nat} (a : Nat) : Inj p fun x => (x + a) % p := by
  refine ⟨fun i hi => Nat.mod_lt _ (by omega), fun i j hi hj e => ?_⟩
  have hp : 0 < p := by omega
  have e1 : ((i + a) % p + (p - a % p)) % p = ((j + a) % p + (p - a % p)) % p := by rw [show (i + a) % p = (j + a) % p from e]
  have key : ∀ k, k < p → ((k + a) % p + (p - a % p)) % p = k := fun k hk => by
    have ha := Nat.mod_lt a hp
    rw [Nat.add_mod k a p, Nat.mod_eq_of_lt hk, Nat.mod_add_mod]
    have : k + a % p + (p - a % p) = k + p := by omega
    rw [this, Nat.add_mod_right, Nat.mod_eq_of_lt hk]
  rw [key i hi, key j hj] at e1
  exact e1
theorem inj_mul {p k : Nat} (hk : Nat.Coprime p k) (a : Nat) : Inj p fun x => (a + k * x) % p := by
  refine ⟨fun i hi => Nat.mod_lt _ (by omega), fun i j hi hj e => ?_⟩
  have key : ∀ i j : Nat, i < p → j < p → i ≤ j → (a + k * i) % p = (a + k * j) % p → i = j := fun i j hi hj hij e => by
    have e' : (a + k * i) % p = (a + k * j) % p := e
    have d : p ∣ (a + k * j) - (a + k * i) := Nat.dvd_of_mod_eq_zero (Nat.sub_mod_eq_zero_of_mod_eq e'.symm)
    have e2 : (a + k * j) - (a + k * i) = k * (j - i) := by rw [Nat.mul_sub]; omega
    rw [e2] at d
    have d2 := hk.dvd_of_dvd_mul_left d
    by_cases z : j - i = 0
    · omega
    · have := Nat.le_of_dvd (by omega) d2; omega
  rcases Nat.le_total i j with q | q
  · exact key i j hi hj q e
  · exact (key j i hj hi q e.symm).symm
/-- a range's sum without its first -/
theorem sm_split (n : Nat) (f : Nat → Int) : sm (n + 1) f = f 0 + sm n (fun i => f (i + 1)) := by
  induction n with
  | zero => show 0 + f 0 = f 0 + 0; omega
  | succ n ih => show sm (n + 1) f + f (n + 1) = f 0 + (sm n (fun i => f (i + 1)) + f (n + 1)); rw [ih]; omega
theorem sm_list : ∀ (n : Nat) (f : Nat → Int), ((List.range n).map f).sum = sm n f
  | 0, _ => rfl
  | n + 1, f => by rw [List.range_succ, List.map_append, List.sum_append, sm_list n f]; simp [sm]
theorem sm_count (n : Nat) (P : Nat → Bool) : (((List.range n).filter P).length : Int) = sm n fun i => if P i = true then 1 else 0 := by
  induction n with
  | zero => rfl
  | succ n ih =>
    show _ = sm n _ + _
    rw [List.range_succ, List.filter_append, List.length_append, Int.natCast_add, ih]
    cases h : P n <;> simp [h]
/-- a square of a sum -/
theorem sm_sq (n : Nat) (f : Nat → Int) : sm n f * sm n f = sm n fun i => sm n fun j => f i * f j := by
  rw [← sm_mulr]
  exact sm_congr fun i _ => (sm_mul _ _ _).symm
theorem sm_bit_one {n : Nat} {f : Nat → Int} (h : ∀ i, i < n → f i = 0 ∨ f i = 1) (e : sm n f = 1) : ∃ a, a < n ∧ f a = 1 ∧ ∀ i, i < n → i ≠ a → f i = 0 := by
  induction n with
  | zero => exact absurd (show (0 : Int) = 1 from e) (by decide)
  | succ n ih =>
    have e : sm n f + f n = 1 := e
    have nn : 0 ≤ sm n f := sm_nonneg fun i hi => by rcases h i (by omega) with q | q <;> omega
    rcases h n (by omega) with q | q
    · obtain ⟨a, h1, h2, h3⟩ := ih (fun i hi => h i (by omega)) (by omega)
      refine ⟨a, by omega, h2, fun i hi hn => ?_⟩
      by_cases z : i = n
      · subst z; exact q
      · exact h3 i (by omega) hn
    · refine ⟨n, by omega, q, fun i hi hn => ?_⟩
      exact sm_le_one_of (fun i hi => by rcases h i (by omega) with q | q <;> omega) (show sm n f = 0 by omega) i (by omega)
end Pm
namespace Pm
def primeB (p : Nat) : Bool := decide (2 ≤ p) && ((List.range (p - 2)).all fun i => decide (p % (i + 2) ≠ 0))
def Tbl (p : Nat) (f : List Int) : Prop := f.length = p ∧ ∀ x ∈ f, 0 ≤ x ∧ x < (p : Int)
def stp (p : Nat) (f : List Int) : List Int := (List.range p).map fun x => (f.getD ((x + 1) % p) 0 - f.getD x 0) % (p : Int)
theorem stp_tbl {p : Nat} (hp : 0 < p) (f : List Int) : Tbl p (stp p f) := by
  refine ⟨by simp [stp], fun x hx => ?_⟩
  obtain ⟨i, _, rfl⟩ := List.mem_map.mp hx
  exact ⟨Int.emod_nonneg _ (by omega), Int.emod_lt_of_pos _ (by omega)⟩
def stpN (p : Nat) : Nat → List Int → List Int
  | 0, f => f
  | n + 1, f => stp p (stpN p n f)
def isZ (f : List Int) : Prop := ∀ x ∈ f, x = 0
theorem stpN_tbl {p : Nat} (hp : 0 < p) {f : List Int} (hf : Tbl p f) : ∀ n, Tbl p (stpN p n f)
  | 0 => hf
  | n + 1 => stp_tbl hp _
/-! ### after p steps nothing is left -/
section
variable {p : Nat} {f : List Int}
def lin (p : Nat) (f : List Int) : List Int → Nat → Int
  | [], _ => 0
  | c :: cs, x => c * f.getD (x % p) 0 + lin p f cs (x + 1)
def subL : List Int → List Int → List Int
  | a :: as, b :: bs => (a - b) :: subL as bs
  | _, _ => []
theorem lin_sub : ∀ (as bs : List Int) (x : Nat), as.length = bs.length → lin p f (subL as bs) x = lin p f as x - lin p f bs x
  | [], [], _, _ => rfl
  | a :: as, b :: bs, x, h => by
    show (a - b) * f.getD (x % p) 0 + lin p f (subL as bs) (x + 1) = (a * f.getD (x % p) 0 + lin p f as (x + 1)) - (b * f.getD (x % p) 0 + lin p f bs (x + 1))
    rw [lin_sub as bs (x + 1) (by simpa using h), Int.sub_mul]; omega
theorem lin_snoc0 : ∀ (as : List Int) (x : Nat), lin p f (as ++ [0]) x = lin p f as x
  | [], x => by simp [lin]
  | a :: as, x => by simp [lin, lin_snoc0 as]
def dco (c : List Int) : List Int := subL (0 :: c) (c ++ [0])
theorem lin_dco (c : List Int) (x : Nat) : lin p f (dco c) x = lin p f c (x + 1) - lin p f c x := by
  unfold dco
  rw [lin_sub _ _ _ (by simp), lin_snoc0]
  simp [lin]
theorem emod_add_mul_eq {a b c : Int} (p : Int) (h : a % p = b % p) (y : Int) (h2 : c % p = y % p) : (a + c) % p = (b + y) % p := by
  rw [Int.add_emod, h, h2, ← Int.add_emod]
theorem lin_mod : ∀ (c : List Int) (x : Nat), lin p f (c.map (· % (p : Int))) x % (p : Int) = lin p f c x % (p : Int)
  | [], _ => rfl
  | a :: as, x => by
    refine emod_add_mul_eq _ ?_ _ (lin_mod as (x + 1))
    rw [Int.mul_emod, Int.emod_emod_of_dvd _ (Int.dvd_refl _), ← Int.mul_emod]
def cN (p : Nat) : Nat → List Int
  | 0 => [1]
  | n + 1 => (dco (cN p n)).map (· % (p : Int))
theorem stp_get {x : Nat} (hp : 0 < p) (F : List Int) : (stp p F).getD (x % p) 0 = (F.getD ((x + 1) % p) 0 - F.getD (x % p) 0) % (p : Int) := by
  have hx := Nat.mod_lt x hp
  have : (x % p + 1) % p = (x + 1) % p := by simp [Nat.add_mod]
  simp [stp, List.getD_eq_getElem?_getD, hx, this]
theorem stpN_lin (hp : 0 < p) (hf : Tbl p f) : ∀ (n x : Nat), (stpN p n f).getD (x % p) 0 = lin p f (cN p n) x % (p : Int)
  | 0, x => by
    have hx := Nat.mod_lt x hp
    have hl : x % p < f.length := by rw [hf.1]; exact hx
    have : f.getD (x % p) 0 = f[x % p] := by simp [List.getD_eq_getElem?_getD, hl]
    have b := hf.2 _ (List.getElem_mem hl)
    show f.getD (x % p) 0 = (1 * f.getD (x % p) 0 + 0) % (p : Int)
    rw [Int.one_mul, Int.add_zero, this, Int.emod_eq_of_lt b.1 b.2]
  | n + 1, x => by
    show (stp p (stpN p n f)).getD (x % p) 0 = _
    rw [stp_get hp, stpN_lin hp hf n (x + 1), stpN_lin hp hf n x]
    show _ = lin p f ((dco (cN p n)).map (· % (p : Int))) x % (p : Int)
    rw [lin_mod, lin_dco, ← Int.sub_emod]
theorem lin_zeros : ∀ (k x : Nat), lin p f (List.replicate k 0 ++ [1]) x = f.getD ((x + k) % p) 0
  | 0, x => by simp [lin]
  | k + 1, x => by
    rw [List.replicate_succ, List.cons_append]
    show 0 * _ + lin p f _ (x + 1) = _
    rw [lin_zeros k (x + 1)]
    have : x + 1 + k = x + (k + 1) := by omega
    rw [this]; omega
def frob (p : Nat) : Bool := decide (cN p p = ((p : Int) - 1) :: (List.replicate (p - 1) 0 ++ [1]))
theorem stpN_p (hp : 0 < p) (hf : Tbl p f) (hc : frob p = true) : isZ (stpN p p f) := by
  have t := stpN_tbl hp hf p
  intro y hy
  obtain ⟨x, hx, rfl⟩ := List.mem_iff_getElem.mp hy
  have hx' : x < p := by rw [t.1] at hx; exact hx
  have e := stpN_lin hp hf p x
  rw [Nat.mod_eq_of_lt hx'] at e
  have g : (stpN p p f).getD x 0 = (stpN p p f)[x] := by simp [List.getD_eq_getElem?_getD, hx]
  rw [← g, e, of_decide_eq_true hc]
  show (((p : Int) - 1) * f.getD (x % p) 0 + lin p f (List.replicate (p - 1) 0 ++ [1]) (x + 1)) % (p : Int) = 0
  rw [lin_zeros]
  have : (x + 1 + (p - 1)) % p = x % p := by
    have : x + 1 + (p - 1) = x + p := by omega
    rw [this, Nat.add_mod_right]
  rw [this]
  have : ((p : Int) - 1) * f.getD (x % p) 0 + f.getD (x % p) 0 = (p : Int) * f.getD (x % p) 0 := by rw [Int.sub_mul]; omega
  rw [this, Int.mul_emod_right]
end
/-! ### polynomials -/
def Df (g : Int → Int) : Int → Int := fun x => g (x + 1) - g x
def DN : Nat → (Int → Int) → (Int → Int)
  | 0, g => g
  | n + 1, g => Df (DN n g)
theorem DN_succ' : ∀ (n : Nat) (g : Int → Int), DN (n + 1) g = DN n (Df g)
  | 0, _ => rfl
  | n + 1, g => by show Df (DN (n + 1) g) = Df (DN n (Df g)); rw [DN_succ' n g]
/-- of degree ≤ m, a its part at x^m -/
def Pol : Nat → Int → (Int → Int) → Prop
  | 0, a, g => ∀ x, g x = a
  | m + 1, a, g => Pol m (((m : Int) + 1) * a) (Df g)
theorem Pol.congr {m : Nat} {a : Int} {g g' : Int → Int} (h : Pol m a g) (e : ∀ x, g x = g' x) : Pol m a g' := by rw [← (funext e : g = g')]; exact h
theorem Pol.add : ∀ {m : Nat} {a b : Int} {f g : Int → Int}, Pol m a f → Pol m b g → Pol m (a + b) fun x => f x + g x
  | 0, a, b, f, g, h1, h2 => fun x => by show f x + g x = a + b; rw [h1 x, h2 x]
  | m + 1, a, b, f, g, h1, h2 => by
    show Pol m (((m : Int) + 1) * (a + b)) _
    rw [Int.mul_add]
    refine (Pol.add (show Pol m (((m : Int) + 1) * a) (Df f) from h1) (show Pol m (((m : Int) + 1) * b) (Df g) from h2)).congr fun x => ?_
    show (f (x + 1) - f x) + (g (x + 1) - g x) = (f (x + 1) + g (x + 1)) - (f x + g x)
    omega
theorem Pol.down : ∀ {m : Nat} {a : Int} {f : Int → Int}, Pol m a f → Pol m 0 (Df f)
  | 0, a, f, h => fun x => by show f (x + 1) - f x = 0; rw [h, h]; omega
  | m + 1, a, f, h => by
    show Pol m (((m : Int) + 1) * 0) (Df (Df f))
    rw [Int.mul_zero]
    exact Pol.down h
theorem Pol.up {m : Nat} {a : Int} {f : Int → Int} (h : Pol m a f) : Pol (m + 1) 0 f := by
  show Pol m (((m : Int) + 1) * 0) (Df f)
  rw [Int.mul_zero]; exact Pol.down h
theorem Pol.mulx : ∀ {m : Nat} {a : Int} {g : Int → Int}, Pol m a g → Pol (m + 1) a fun x => x * g x
  | 0, a, g, h => by
    show ∀ x, (x + 1) * g (x + 1) - x * g x = (((0 : Nat) : Int) + 1) * a
    intro x
    rw [h, h]; grind
  | m + 1, a, g, h => by
    show Pol (m + 1) ((((m + 1 : Nat) : Int) + 1) * a) (Df fun x => x * g x)
    have h1 : Pol (m + 1) (((m : Int) + 1) * a) fun x => x * Df g x := Pol.mulx (show Pol m (((m : Int) + 1) * a) (Df g) from h)
    have h2 : Pol (m + 1) 0 (Df g) := Pol.up (show Pol m _ (Df g) from h)
    have h3 := Pol.add (Pol.add h1 h2) h
    have e : ((m : Int) + 1) * a + 0 + a = (((m + 1 : Nat) : Int) + 1) * a := by push_cast; grind
    rw [e] at h3
    refine h3.congr fun x => ?_
    show x * (g (x + 1) - g x) + (g (x + 1) - g x) + g x = (x + 1) * g (x + 1) - x * g x
    grind
theorem Pol.const (c : Int) : ∀ m : Nat, Pol m (if m = 0 then c else 0) fun _ => c
  | 0 => fun _ => rfl
  | m + 1 => by
    rw [if_neg (Nat.succ_ne_zero m)]
    have := Pol.const c m
    exact Pol.up this
def fct : Nat → Int
  | 0 => 1
  | n + 1 => ((n : Int) + 1) * fct n
theorem Pol.last : ∀ {m : Nat} {a : Int} {g : Int → Int}, Pol m a g → ∀ x, DN m g x = fct m * a
  | 0, a, g, h, x => by show g x = 1 * a; rw [h, Int.one_mul]
  | m + 1, a, g, h, x => by
    rw [DN_succ', Pol.last (show Pol m (((m : Int) + 1) * a) (Df g) from h) x]
    show fct m * (((m : Int) + 1) * a) = ((m : Int) + 1) * fct m * a
    grind
def hor : List Int → Int → Int
  | [], _ => 0
  | c :: cs, x => c + x * hor cs x
theorem hor_pol : ∀ (cs : List Int) (c : Int), Pol cs.length c (hor (cs ++ [c]))
  | [], c => fun x => by show c + x * 0 = c; omega
  | d :: cs, c => by
    have h1 := Pol.mulx (hor_pol cs c)
    have h2 := Pol.const d (cs.length + 1)
    rw [if_neg (Nat.succ_ne_zero _)] at h2
    have h3 := Pol.add h2 h1
    rw [Int.zero_add] at h3
    exact h3
theorem hor_zeros : ∀ (cs zs : List Int), (∀ z ∈ zs, z = 0) → ∀ x, hor (cs ++ zs) x = hor cs x
  | [], [], _, _ => rfl
  | [], z :: zs, h, x => by
    show z + x * hor ([] ++ zs) x = 0
    rw [hor_zeros [] zs (fun y hy => h y (List.mem_cons_of_mem _ hy)) x, h z List.mem_cons_self]
    show 0 + x * 0 = 0; omega
  | c :: cs, zs, h, x => by
    show c + x * hor (cs ++ zs) x = c + x * hor cs x
    rw [hor_zeros cs zs h x]
/-! ### tables of functions -/
def Per (p : Nat) (g : Int → Int) : Prop := ∀ x, g (x + (p : Int)) % (p : Int) = g x % (p : Int)
theorem Per.D {p : Nat} {g : Int → Int} (h : Per p g) : Per p (Df g) := fun x => by
  show (g (x + p + 1) - g (x + p)) % (p : Int) = (g (x + 1) - g x) % (p : Int)
  have : x + (p : Int) + 1 = x + 1 + p := by omega
  rw [this, Int.sub_emod, h, h, ← Int.sub_emod]
theorem Per.DN {p : Nat} {g : Int → Int} (h : Per p g) : ∀ n, Per p (DN n g)
  | 0 => h
  | n + 1 => (Per.DN h n).D
theorem hor_per (p : Nat) : ∀ c : List Int, Per p (hor c)
  | [], _ => rfl
  | c :: cs, x => by
    show (c + (x + p) * hor cs (x + p)) % (p : Int) = (c + x * hor cs x) % (p : Int)
    have : (x + (p : Int)) * hor cs (x + p) = x * hor cs (x + p) + (p : Int) * hor cs (x + p) := by grind
    rw [this, ← Int.add_assoc, Int.add_mul_emod_self_left]
    refine emod_add_mul_eq _ rfl _ ?_
    rw [Int.mul_emod, hor_per p cs x, ← Int.mul_emod]
def tab' (p : Nat) (g : Int → Int) : List Int := (List.range p).map fun x : Nat => g (x : Int) % (p : Int)
theorem tab_tbl {p : Nat} (hp : 0 < p) (g : Int → Int) : Tbl p (tab' p g) := by
  refine ⟨by simp [tab'], fun x hx => ?_⟩
  obtain ⟨i, _, rfl⟩ := List.mem_map.mp hx
  exact ⟨Int.emod_nonneg _ (by omega), Int.emod_lt_of_pos _ (by omega)⟩
theorem tab_get {p x : Nat} (g : Int → Int) (h : x < p) : (tab' p g).getD x 0 = g (x : Int) % (p : Int) := by simp [tab', List.getD_eq_getElem?_getD, h]
theorem stp_tab {p : Nat} (hp : 0 < p) {g : Int → Int} (h : Per p g) : stp p (tab' p g) = tab' p (Df g) := by
  unfold stp
  show _ = (List.range p).map fun x : Nat => Df g (x : Int) % (p : Int)
  refine List.map_congr_left fun x hx => ?_
  have hx := List.mem_range.mp hx
  rw [tab_get g hx, tab_get g (Nat.mod_lt _ hp)]
  have : g (((x + 1) % p : Nat) : Int) % (p : Int) = g ((x : Int) + 1) % (p : Int) := by
    by_cases e : x + 1 < p
    · rw [Nat.mod_eq_of_lt e]; rfl
    · have e2 : x + 1 = p := by omega
      rw [e2, Nat.mod_self]
      have := h 0
      rw [Int.zero_add] at this
      have e3 : (x : Int) + 1 = (p : Int) := by omega
      rw [e3, this]; rfl
  rw [this, ← Int.sub_emod]; rfl
theorem stpN_tab {p : Nat} (hp : 0 < p) {g : Int → Int} (h : Per p g) : ∀ n, stpN p n (tab' p g) = tab' p (DN n g)
  | 0 => rfl
  | n + 1 => by show stp p (stpN p n (tab' p g)) = _; rw [stpN_tab hp h n, stp_tab hp (h.DN n)]; rfl
theorem isZ_stp {p : Nat} (hp : 0 < p) {f : List Int} (h : isZ f) : isZ (stp p f) := by
  intro x hx
  obtain ⟨i, _, rfl⟩ := List.mem_map.mp hx
  have z : ∀ j, f.getD j 0 = 0 := fun j => by
    rw [List.getD_eq_getElem?_getD]
    cases e : f[j]? with
    | none => rfl
    | some y => exact h y (List.mem_of_getElem? e)
  rw [z, z]; rfl
theorem isZ_stpN {p : Nat} (hp : 0 < p) {f : List Int} {m : Nat} (h : isZ (stpN p m f)) : ∀ k, isZ (stpN p (m + k) f)
  | 0 => h
  | k + 1 => isZ_stp hp (isZ_stpN hp h k)
/-! ### the prime -/
theorem cop_lt {p k : Nat} (hp : primeB p = true) (h0 : 0 < k) (hk : k < p) : Nat.Coprime p k := by
  unfold primeB at hp
  rw [Bool.and_eq_true, decide_eq_true_eq] at hp
  have hd := Nat.gcd_dvd_left p k
  have hle : Nat.gcd p k ≤ k := Nat.le_of_dvd h0 (Nat.gcd_dvd_right p k)
  have hpos : 0 < Nat.gcd p k := Nat.gcd_pos_of_pos_right _ h0
  show Nat.gcd p k = 1
  by_cases e : Nat.gcd p k = 1
  · exact e
  · have := List.all_eq_true.mp hp.2 (Nat.gcd p k - 2) (List.mem_range.mpr (by omega))
    have e2 : Nat.gcd p k - 2 + 2 = Nat.gcd p k := by omega
    rw [e2, decide_eq_true_eq] at this
    exact absurd (Nat.mod_eq_zero_of_dvd hd) this
theorem fct_nat : ∀ m : Nat, ∃ k : Nat, fct m = (k : Int) ∧ ∀ p, primeB p = true → m < p → Nat.Coprime p k
  | 0 => ⟨1, rfl, fun p _ _ => Nat.coprime_one_right p⟩
  | m + 1 => by
    obtain ⟨k, e, h⟩ := fct_nat m
    refine ⟨(m + 1) * k, by show ((m : Int) + 1) * fct m = _; rw [e]; push_cast; rfl, fun p hp hm => ?_⟩
    exact Nat.Coprime.mul_right (cop_lt hp (by omega) hm) (h p hp (by omega))
theorem lead_ne {p m : Nat} (hp : primeB p = true) (hm : m < p) {c : Int} (h0 : 0 < c) (hc : c < p) : (fct m * c) % (p : Int) ≠ 0 := by
  obtain ⟨k, e, h⟩ := fct_nat m
  obtain ⟨d, rfl⟩ := Int.eq_ofNat_of_zero_le (Int.le_of_lt h0)
  have cp := Nat.Coprime.mul_right (h p hp hm) (cop_lt hp (show 0 < d by omega) (by omega))
  rw [e]
  intro z
  have z2 : (k * d) % p = 0 := by
    have : (((k * d) % p : Nat) : Int) = 0 := by rw [Int.natCast_emod]; push_cast; exact z
    omega
  have dv := Nat.dvd_of_mod_eq_zero z2
  have p1 : p = 1 := by
    have := Nat.gcd_eq_left dv
    rw [show Nat.gcd p (k * d) = 1 from cp] at this
    omega
  unfold primeB at hp
  rw [Bool.and_eq_true, decide_eq_true_eq] at hp
  omega
/-- the degree of a polynomial's table -/
theorem hor_degree {p m : Nat} (hp : primeB p = true) (hm : m < p) {c : List Int} {a : Int} {zs : List Int} (hl : c.length = m) (h0 : 0 < a) (ha : a < p) (hz : ∀ z ∈ zs, z = 0) :
    isZ (stpN p (m + 1) (tab' p (hor (c ++ [a] ++ zs)))) ∧ ∀ j, j < m + 1 → ¬ isZ (stpN p j (tab' p (hor (c ++ [a] ++ zs)))) := by
  have hp0 : 0 < p := by omega
  have hg : hor (c ++ [a] ++ zs) = hor (c ++ [a]) := funext (hor_zeros (c ++ [a]) zs hz)
  rw [hg]
  have P := hor_pol c a
  rw [hl] at P
  have per := hor_per p (c ++ [a])
  refine ⟨?_, fun j hj z => ?_⟩
  · rw [stpN_tab hp0 per]
    intro x hx
    obtain ⟨i, _, rfl⟩ := List.mem_map.mp hx
    show (DN m _ ((i : Int) + 1) - DN m _ (i : Int)) % (p : Int) = 0
    rw [P.last, P.last, Int.sub_self]; rfl
  · have z2 := isZ_stpN hp0 z (m - j)
    have : j + (m - j) = m := by omega
    rw [this, stpN_tab hp0 per] at z2
    have := z2 (DN m (hor (c ++ [a])) (0 : Int) % (p : Int)) (List.mem_map.mpr ⟨0, List.mem_range.mpr hp0, rfl⟩)
    rw [P.last] at this
    exact lead_ne hp hm h0 ha this
theorem least {P : Nat → Prop} : ∀ {k : Nat}, P k → ∃ n, n ≤ k ∧ P n ∧ ∀ m, m < n → ¬ P m
  | 0, h => ⟨0, Nat.le_refl _, h, fun m hm => absurd hm (Nat.not_lt_zero _)⟩
  | k + 1, h => by
    by_cases e : ∃ j, j ≤ k ∧ P j
    · obtain ⟨j, hj, pj⟩ := e
      obtain ⟨n, h1, h2, h3⟩ := least pj
      exact ⟨n, by omega, h2, h3⟩
    · exact ⟨k + 1, Nat.le_refl _, h, fun m hm z => e ⟨m, by omega, z⟩⟩
end Pm
namespace Pm
/-! ### sums along steps -/
def subZ : List Int → List Int → List Int
  | a :: as, b :: bs => (a - b) :: subZ as bs
  | _, _ => []
def rowL : Nat → List Int
  | 0 => [1]
  | n + 1 => subZ (rowL n ++ [0]) (0 :: rowL n)
def linH (f : Nat → Int) (h : Nat) : List Int → Nat → Int
  | [], _ => 0
  | c :: cs, x => c * f x + linH f h cs (x + h)
section
variable {f : Nat → Int} {h : Nat}
theorem linH_sub : ∀ (as bs : List Int) (x : Nat), as.length = bs.length → linH f h (subZ as bs) x = linH f h as x - linH f h bs x
  | [], [], _, _ => rfl
  | a :: as, b :: bs, x, q => by
    show (a - b) * f x + linH f h (subZ as bs) (x + h) = (a * f x + linH f h as (x + h)) - (b * f x + linH f h bs (x + h))
    rw [linH_sub as bs (x + h) (by simpa using q), Int.sub_mul]; omega
theorem linH_snoc0 : ∀ (as : List Int) (x : Nat), linH f h (as ++ [0]) x = linH f h as x
  | [], x => by simp [linH]
  | a :: as, x => by simp [linH, linH_snoc0 as]
theorem subZ_length : ∀ (as bs : List Int), as.length = bs.length → (subZ as bs).length = as.length
  | [], [], _ => rfl
  | a :: as, b :: bs, q => by simp [subZ, subZ_length as bs (by simpa using q)]
theorem rowL_length : ∀ n, (rowL n).length = n + 1
  | 0 => rfl
  | n + 1 => by rw [rowL, subZ_length _ _ (by simp)]; simp [rowL_length n]
theorem row0 : ∀ n, (rowL n).getD 0 0 = 1
  | 0 => rfl
  | n + 1 => by
    have l := rowL_length n
    have := row0 n
    unfold rowL
    cases e : rowL n with
    | nil => rw [e] at l; simp at l
    | cons a as => rw [e] at this; simp only [List.cons_append, subZ]; simp at this ⊢; omega
/-- the n-th difference by steps of h, with a sign -/
def Rr (f : Nat → Int) (n h x : Nat) : Int := linH f h (rowL n) x
theorem Rr_zero (x : Nat) : Rr f 0 h x = f x := by show 1 * f x + 0 = f x; omega
theorem Rr_succ (n x : Nat) : Rr f (n + 1) h x = Rr f n h x - Rr f n h (x + h) := by
  unfold Rr
  rw [rowL, linH_sub _ _ _ (by simp), linH_snoc0]
  simp [linH]
theorem linH_sm : ∀ (cs : List Int) (x : Nat), linH f h cs x = sm cs.length fun i => cs.getD i 0 * f (x + i * h)
  | [], _ => rfl
  | c :: cs, x => by
    show c * f x + linH f h cs (x + h) = sm (cs.length + 1) _
    rw [sm_split, linH_sm cs (x + h)]
    congr 1
    · simp
    · refine sm_congr fun i _ => ?_
      have : x + h + i * h = x + (i + 1) * h := by rw [Nat.add_mul]; omega
      rw [this]; simp
theorem Rr_sm (n x : Nat) : Rr f n h x = sm (n + 1) fun i => (rowL n).getD i 0 * f (x + i * h) := by
  unfold Rr; rw [linH_sm, rowL_length]
theorem dvd_sm {p : Int} : ∀ {n : Nat} {g : Nat → Int}, (∀ i, i < n → p ∣ g i) → p ∣ sm n g
  | 0, _, _ => Int.dvd_zero p
  | n + 1, g, q => Int.dvd_add (dvd_sm fun i hi => q i (by omega)) (q n (by omega))
/-- differences by 1 and by h -/
def Mx (f : Nat → Int) (h : Nat) : Nat → Nat → Nat → Int
  | 0, b, x => Rr f b 1 x
  | a + 1, b, x => Mx f h a b x - Mx f h a b (x + h)
theorem Mx_b : ∀ (a b x : Nat), Mx f h a (b + 1) x = Mx f h a b x - Mx f h a b (x + 1)
  | 0, b, x => Rr_succ b x
  | a + 1, b, x => by
    show Mx f h a (b + 1) x - Mx f h a (b + 1) (x + h) = (Mx f h a b x - Mx f h a b (x + h)) - (Mx f h a b (x + 1) - Mx f h a b (x + 1 + h))
    rw [Mx_b a b x, Mx_b a b (x + h)]
    have : x + h + 1 = x + 1 + h := by omega
    rw [this]; omega
theorem Mx_0 : ∀ (a x : Nat), Mx f h a 0 x = Rr f a h x
  | 0, x => by show Rr f 0 1 x = _; rw [Rr_zero, Rr_zero]
  | a + 1, x => by show Mx f h a 0 x - Mx f h a 0 (x + h) = _; rw [Mx_0, Mx_0, Rr_succ]
theorem tele (g : Nat → Int) (x : Nat) : ∀ k : Nat, g x - g (x + k) = sm k fun j => g (x + j) - g (x + j + 1)
  | 0 => by simp [sm]
  | k + 1 => by
    show _ = sm k _ + (g (x + k) - g (x + k + 1))
    rw [← tele g x k]
    have : x + (k + 1) = x + k + 1 := by omega
    rw [this]; omega
theorem Rr_all {p : Int} {n : Nat} (q : ∀ x, p ∣ Rr f n 1 x) (x : Nat) : p ∣ Rr f n h x := by
  have key : ∀ a b, a + b = n → ∀ x, p ∣ Mx f h a b x := by
    intro a
    induction a with
    | zero => intro b e x; have : b = n := by omega
              subst this; exact q x
    | succ a ih =>
      intro b e x
      show p ∣ Mx f h a b x - Mx f h a b (x + h)
      rw [tele (fun y => Mx f h a b y) x h]
      refine dvd_sm fun j _ => ?_
      show p ∣ Mx f h a b (x + j) - Mx f h a b (x + j + 1)
      rw [← Mx_b]
      exact ih (b + 1) (by omega) _
  rw [← Mx_0]
  exact key n 0 (by omega) x
end
/-- a table as a function without end -/
def at' (p : Nat) (F : List Int) (x : Nat) : Int := F.getD (x % p) 0
theorem at_mod (p : Nat) (F : List Int) (x : Nat) : at' p F (x % p) = at' p F x := by simp [at']
def sgn : Nat → Int
  | 0 => 1
  | n + 1 => -sgn n
theorem sgn_sq : ∀ n, sgn n = 1 ∨ sgn n = -1
  | 0 => .inl rfl
  | n + 1 => by show -sgn n = 1 ∨ -sgn n = -1; rcases sgn_sq n with h | h <;> rw [h] <;> simp
section
variable {p : Nat} {F : List Int}
theorem stpN_Rr (hp : 0 < p) (hF : Tbl p F) : ∀ (n x : Nat), (stpN p n F).getD (x % p) 0 % (p : Int) = (sgn n * Rr (at' p F) n 1 x) % (p : Int)
  | 0, x => by rw [Rr_zero]; show at' p F x % _ = (1 * _) % _; rw [Int.one_mul]
  | n + 1, x => by
    show (stp p (stpN p n F)).getD (x % p) 0 % _ = _
    rw [stp_get hp, Int.emod_emod_of_dvd _ (Int.dvd_refl _), Int.sub_emod, stpN_Rr hp hF n (x + 1), stpN_Rr hp hF n x, ← Int.sub_emod, Rr_succ]
    congr 1
    show _ = -sgn n * _
    rw [Int.neg_mul, Int.mul_sub]; omega
theorem isZ_iff (hp : 0 < p) (hF : Tbl p F) (n : Nat) : isZ (stpN p n F) ↔ ∀ x, (p : Int) ∣ Rr (at' p F) n 1 x := by
  have t := stpN_tbl hp hF n
  have e : ∀ x, ((p : Int) ∣ Rr (at' p F) n 1 x) ↔ (stpN p n F).getD (x % p) 0 % (p : Int) = 0 := fun x => by
    rw [stpN_Rr hp hF n x, Int.dvd_iff_emod_eq_zero]
    rcases sgn_sq n with q | q <;> rw [q]
    · rw [Int.one_mul]
    · rw [Int.neg_mul, Int.one_mul, ← Int.dvd_iff_emod_eq_zero, ← Int.dvd_iff_emod_eq_zero, Int.dvd_neg]
  constructor
  · intro z x
    rw [e]
    have hx : x % p < (stpN p n F).length := by rw [t.1]; exact Nat.mod_lt _ hp
    have : (stpN p n F).getD (x % p) 0 = (stpN p n F)[x % p] := by simp [List.getD_eq_getElem?_getD, hx]
    rw [this, z _ (List.getElem_mem hx)]; rfl
  · intro z y hy
    obtain ⟨x, hx, rfl⟩ := List.mem_iff_getElem.mp hy
    have b := t.2 _ hy
    have hx' : x < p := by rw [t.1] at hx; exact hx
    have := (e x).mp (z x)
    rw [Nat.mod_eq_of_lt hx'] at this
    have g : (stpN p n F).getD x 0 = (stpN p n F)[x] := by simp [List.getD_eq_getElem?_getD, hx]
    rw [g, Int.emod_eq_of_lt b.1 b.2] at this
    exact this
end
/-- the sum along x, x + h .. -/
def Ss (p n : Nat) (F : List Int) (x h : Nat) : Int := sm (n + 1) fun i => (rowL n).getD i 0 * F.getD ((x + i * h) % p) 0
theorem Ss_Rr (p n : Nat) (F : List Int) (x h : Nat) : Ss p n F x h = Rr (at' p F) n h x := by rw [Rr_sm]; rfl
theorem Ss_mod (p n : Nat) (F : List Int) (x h : Nat) : Ss p n F (x % p) h = Ss p n F x h := by
  unfold Ss
  refine sm_congr fun i _ => ?_
  rw [Nat.mod_add_mod]
def br (p n : Nat) (F : List Int) (x h : Nat) : Int := if Ss p n F x h % (p : Int) = 0 then 0 else 1
theorem br_bit (p n : Nat) (F : List Int) (x h : Nat) : br p n F x h = 0 ∨ br p n F x h = 1 := by
  unfold br; split
  · exact .inl rfl
  · exact .inr rfl
def Bk (p n : Nat) (F : List Int) : Int := sm p fun x => sm p fun h => br p n F x h
theorem Bk_zero {p n : Nat} {F : List Int} (hp : 2 ≤ p) (hF : Tbl p F) : Bk p n F = 0 ↔ isZ (stpN p n F) := by
  rw [isZ_iff (by omega) hF]
  constructor
  · intro z x
    have h1 := sm_le_one_of (fun x _ => sm_nonneg fun h _ => by rcases br_bit p n F x h with q | q <;> omega) z (x % p) (Nat.mod_lt _ (by omega))
    have h2 := sm_le_one_of (fun h _ => by rcases br_bit p n F (x % p) h with q | q <;> omega) h1 1 (by omega)
    unfold br at h2
    rw [Ss_mod, Ss_Rr] at h2
    split at h2
    · rename_i q; exact Int.dvd_of_emod_eq_zero q
    · omega
  · intro z
    refine sm_zero fun x _ => sm_zero fun h _ => ?_
    unfold br
    rw [Ss_Rr, if_pos (Int.emod_eq_zero_of_dvd (Rr_all z x))]
end Pm
namespace Pm
/-! ### places that differ -/
theorem cop_ne {p k : Nat} (hp : primeB p = true) (hk : k % p ≠ 0) : Nat.Coprime p k := by
  have hp0 : 0 < p := by
    rcases Nat.eq_zero_or_pos p with z | z
    · subst z; exact absurd hp (by decide)
    · exact z
  have h := cop_lt hp (k := k % p) (by omega) (Nat.mod_lt _ hp0)
  show Nat.gcd p k = 1
  rw [Nat.gcd_rec, Nat.gcd_comm]; exact h
theorem row_dvd : ∀ n, n ≤ 5 → ∀ i, i < n + 1 → (rowL n).getD i 0 ∣ fct n := by decide +kernel
def dif (F C : List Int) (x : Nat) : Int := if F.getD x 0 = C.getD x 0 then 0 else 1
theorem dif_bit (F C : List Int) (x : Nat) : dif F C x = 0 ∨ dif F C x = 1 := by
  unfold dif; split
  · exact .inl rfl
  · exact .inr rfl
theorem tbl_get {p : Nat} {F : List Int} (hF : Tbl p F) {x : Nat} (hx : x < p) : 0 ≤ F.getD x 0 ∧ F.getD x 0 < (p : Int) := by
  have hl : x < F.length := by rw [hF.1]; exact hx
  have : F.getD x 0 = F[x] := by simp [List.getD_eq_getElem?_getD, hl]
  rw [this]; exact hF.2 _ (List.getElem_mem hl)
theorem row_ne {p n : Nat} (hp : primeB p = true) (hn5 : n ≤ 5) (hn : n < p) {i : Nat} (hi : i < n + 1) {e : Int} (h0 : e ≠ 0) (h1 : -(p : Int) < e) (h2 : e < (p : Int)) : ((rowL n).getD i 0 * e) % (p : Int) ≠ 0 := by
  intro z
  obtain ⟨k, hk⟩ := row_dvd n hn5 i hi
  have d : (p : Int) ∣ fct n * e := by
    rw [hk, Int.mul_assoc, Int.mul_comm k e, ← Int.mul_assoc]
    exact Int.dvd_mul_of_dvd_left (Int.dvd_of_emod_eq_zero z)
  by_cases q : 0 < e
  · exact lead_ne hp hn q h2 (Int.emod_eq_zero_of_dvd d)
  · have : (p : Int) ∣ fct n * (-e) := by rw [Int.mul_neg]; exact Int.dvd_neg.mpr d
    exact lead_ne hp hn (by omega) (by omega) (Int.emod_eq_zero_of_dvd this)
section
variable {p n : Nat} {F C : List Int}
theorem one_err (hp : primeB p = true) (hp0 : 0 < p) (hn5 : n ≤ 5) (hn : n < p) (hF : Tbl p F) (hC : Tbl p C) (z : ∀ x h, (p : Int) ∣ Ss p n C x h) {x h : Nat} (e : sm (n + 1) (fun i => dif F C ((x + i * h) % p)) = 1) : br p n F x h = 1 := by
  obtain ⟨a, ha, h1, h2⟩ := sm_bit_one (fun i _ => dif_bit F C _) e
  have s : Ss p n F x h - Ss p n C x h = (rowL n).getD a 0 * (F.getD ((x + a * h) % p) 0 - C.getD ((x + a * h) % p) 0) := by
    unfold Ss
    rw [← sm_sub, sm_one (a := a) ha fun i hi hne => ?_]
    · rw [Int.mul_sub]
    · have := h2 i hi hne
      unfold dif at this
      split at this
      · rename_i q; rw [q]; omega
      · omega
  have b1 := tbl_get hF (Nat.mod_lt (x + a * h) hp0)
  have b2 := tbl_get hC (Nat.mod_lt (x + a * h) hp0)
  have ne : F.getD ((x + a * h) % p) 0 - C.getD ((x + a * h) % p) 0 ≠ 0 := by
    intro q
    have h1 := h1
    unfold dif at h1
    rw [if_pos (by omega)] at h1; omega
  have nz := row_ne hp hn5 hn ha ne (by omega) (by omega)
  unfold br
  rw [if_neg fun q => nz ?_]
  rw [← s]
  exact Int.emod_eq_zero_of_dvd (Int.dvd_sub (Int.dvd_of_emod_eq_zero q) (z x h))
theorem br_ge (hp : primeB p = true) (hp0 : 0 < p) (hn5 : n ≤ 5) (hn : n < p) (hF : Tbl p F) (hC : Tbl p C) (z : ∀ x h, (p : Int) ∣ Ss p n C x h) (x h : Nat) :
    2 * sm (n + 1) (fun i => dif F C ((x + i * h) % p)) - sm (n + 1) (fun i => dif F C ((x + i * h) % p)) * sm (n + 1) (fun i => dif F C ((x + i * h) % p)) ≤ br p n F x h := by
  have nn : 0 ≤ sm (n + 1) (fun i => dif F C ((x + i * h) % p)) := sm_nonneg fun i _ => by rcases dif_bit F C ((x + i * h) % p) with q | q <;> omega
  have o := one_err hp hp0 hn5 hn hF hC z (x := x) (h := h)
  have bb := br_bit p n F x h
  generalize sm (n + 1) (fun i => dif F C ((x + i * h) % p)) = m at *
  by_cases h1 : m = 1
  · rw [o h1, h1]; omega
  · by_cases h0 : m = 0
    · rw [h0]; rcases bb with q | q <;> omega
    · have : 2 * m ≤ m * m := Int.mul_le_mul_of_nonneg_right (by omega) nn
      rcases bb with q | q <;> omega
theorem dif_shift (hp0 : 0 < p) (i h : Nat) : sm p (fun x => dif F C ((x + i * h) % p)) = sm p (dif F C) := sm_inj (inj_add (i * h)) (dif F C)
theorem pair_shift (hp0 : 0 < p) {i j : Nat} (hi : i < p) (h : Nat) (A : Nat → Int) : sm p (fun x => A ((x + i * h) % p) * A ((x + j * h) % p)) = sm p fun z => A z * A ((z + (p - i + j) * h) % p) := by
  rw [← sm_inj (inj_add ((p - i) * h)) fun x => A ((x + i * h) % p) * A ((x + j * h) % p)]
  refine sm_congr fun z hz => ?_
  have e1 : ((z + (p - i) * h) % p + i * h) % p = z := by
    rw [Nat.mod_add_mod]
    have : z + (p - i) * h + i * h = z + p * h := by
      have : (p - i) * h + i * h = p * h := by rw [← Nat.add_mul]; congr 1; omega
      omega
    rw [this, Nat.add_mul_mod_self_left, Nat.mod_eq_of_lt hz]
  have e2 : ((z + (p - i) * h) % p + j * h) % p = (z + (p - i + j) * h) % p := by
    rw [Nat.mod_add_mod, Nat.add_mul]; congr 1; omega
  show A (((z + (p - i) * h) % p + i * h) % p) * A (((z + (p - i) * h) % p + j * h) % p) = _
  rw [e1, e2]
theorem pair_sum (hp : primeB p = true) (hp0 : 0 < p) {i j : Nat} (hi : i < p) (hj : j < p) (A : Nat → Int) (hA : ∀ x, A x = 0 ∨ A x = 1) :
    sm (p - 1) (fun h => sm p (fun x => A ((x + i * (h + 1)) % p) * A ((x + j * (h + 1)) % p))) = if i = j then ((p : Int) - 1) * sm p A else sm p A * sm p A - sm p A := by
  have sq : ∀ x, A x * A x = A x := fun x => by rcases hA x with q | q <;> rw [q] <;> rfl
  by_cases e : i = j
  · subst e
    rw [if_pos rfl, sm_congr (g := fun _ => sm p A) fun h _ => ?_, sm_const]
    · congr 1; omega
    · rw [sm_congr (g := fun x => A ((x + i * (h + 1)) % p)) fun x _ => sq _]
      exact sm_inj (inj_add (i * (h + 1))) A
  · rw [if_neg e, sm_congr (g := fun h => sm p fun z => A z * A ((z + (p - i + j) * (h + 1)) % p)) fun h _ => pair_shift hp0 hi (h + 1) A, sm_swap]
    have hk : (p - i + j) % p ≠ 0 := by
      by_cases q : p - i + j < p
      · rw [Nat.mod_eq_of_lt q]; omega
      · have : p - i + j = (j - i) + p := by omega
        rw [this, Nat.add_mod_right, Nat.mod_eq_of_lt (by omega)]; omega
    have inner : ∀ z, z < p → sm (p - 1) (fun h => A z * A ((z + (p - i + j) * (h + 1)) % p)) = A z * sm p A - A z := fun z hz => by
      rw [sm_mul]
      have s := sm_split (p - 1) fun h => A ((z + (p - i + j) * h) % p)
      have : p - 1 + 1 = p := by omega
      rw [this, sm_inj (inj_mul (cop_ne hp hk) z) A] at s
      have z0 : (z + (p - i + j) * 0) % p = z := by rw [Nat.mul_zero, Nat.add_zero, Nat.mod_eq_of_lt hz]
      rw [z0] at s
      have e2 : sm (p - 1) (fun h => A ((z + (p - i + j) * (h + 1)) % p)) = sm p A - A z := by omega
      rw [e2, Int.mul_sub, sq]
    rw [sm_congr inner, sm_sub, sm_mulr]
theorem Bk_ge (hp : primeB p = true) (hp0 : 2 ≤ p) (hn5 : n ≤ 5) (hn : n < p) (hF : Tbl p F) (hC : Tbl p C) (z : isZ (stpN p n C)) :
    ((n : Int) + 1) * sm p (dif F C) * ((p : Int) - 1 - n * (sm p (dif F C) - 1)) ≤ Bk p n F := by
  have z2 : ∀ x h, (p : Int) ∣ Ss p n C x h := fun x h => by rw [Ss_Rr]; exact Rr_all ((isZ_iff (by omega) hC n).mp z) x
  have b0 : ∀ x h, 0 ≤ br p n F x h := fun x h => by rcases br_bit p n F x h with q | q <;> omega
  -- h = 0 left out
  have s1 : sm p (fun x => sm (p - 1) fun h => br p n F x (h + 1)) ≤ Bk p n F := sm_le fun x _ => by
    have s := sm_split (p - 1) fun h => br p n F x h
    have : p - 1 + 1 = p := by omega
    rw [this] at s
    have := b0 x 0; omega
  have s2 : sm p (fun x => sm (p - 1) fun h => 2 * sm (n + 1) (fun i => dif F C ((x + i * (h + 1)) % p)) - sm (n + 1) (fun i => dif F C ((x + i * (h + 1)) % p)) * sm (n + 1) (fun i => dif F C ((x + i * (h + 1)) % p))) ≤ sm p (fun x => sm (p - 1) fun h => br p n F x (h + 1)) :=
    sm_le fun x _ => sm_le fun h _ => br_ge hp (by omega) hn5 hn hF hC z2 x (h + 1)
  refine Int.le_trans ?_ (Int.le_trans s2 s1)
  rw [sm_swap]
  have t1 : ∀ h, sm p (fun x => 2 * sm (n + 1) (fun i => dif F C ((x + i * (h + 1)) % p)) - sm (n + 1) (fun i => dif F C ((x + i * (h + 1)) % p)) * sm (n + 1) (fun i => dif F C ((x + i * (h + 1)) % p)))
      = 2 * (((n : Int) + 1) * sm p (dif F C)) - sm (n + 1) fun i => sm (n + 1) fun j => sm p fun x => dif F C ((x + i * (h + 1)) % p) * dif F C ((x + j * (h + 1)) % p) := fun h => by
    rw [sm_sub, sm_mul]
    congr 1
    · rw [sm_swap, sm_congr (g := fun _ => sm p (dif F C)) fun i _ => dif_shift (by omega) i (h + 1), sm_const]; push_cast; rfl
    · rw [sm_congr fun x _ => sm_sq (n + 1) _, sm_swap]
      exact sm_congr fun i _ => sm_swap _ _ _
  rw [sm_congr fun h _ => t1 h, sm_sub, sm_const, sm_swap]
  have t2 : ∀ i, i < n + 1 → sm (p - 1) (fun h => sm (n + 1) fun j => sm p fun x => dif F C ((x + i * (h + 1)) % p) * dif F C ((x + j * (h + 1)) % p)) = ((n : Int) + 1) * (sm p (dif F C) * sm p (dif F C) - sm p (dif F C)) + (((p : Int) - 1) * sm p (dif F C) - (sm p (dif F C) * sm p (dif F C) - sm p (dif F C))) := fun i hi => by
    rw [sm_swap, sm_congr fun j hj => pair_sum hp (by omega) (by omega) (by omega) (dif F C) (dif_bit F C)]
    generalize ((p : Int) - 1) * sm p (dif F C) = a
    generalize sm p (dif F C) * sm p (dif F C) - sm p (dif F C) = b
    rw [sm_congr (g := fun j => b + del i j * (a - b)) fun j _ => ?_, sm_add, sm_const, sm_del (fun _ => a - b) hi]
    · push_cast; rfl
    · unfold del; split <;> simp <;> omega
  rw [sm_congr t2, sm_const]
  have : ((p - 1 : Nat) : Int) = (p : Int) - 1 := by omega
  rw [this]
  generalize sm p (dif F C) = w
  push_cast
  exact Int.le_of_eq (by grind)
end
end Pm
namespace Pm
/-! ### votes along steps -/
section
variable {p n : Nat} {F : List Int}
theorem grid (x h1 h2 : Nat) : sm (n + 1) (fun j => (rowL n).getD j 0 * Ss p n F (x + j * h2) h1) = sm (n + 1) (fun i => (rowL n).getD i 0 * Ss p n F (x + i * h1) h2) := by
  unfold Ss
  rw [sm_congr (g := fun j => sm (n + 1) fun i => (rowL n).getD j 0 * ((rowL n).getD i 0 * F.getD ((x + j * h2 + i * h1) % p) 0)) fun j _ => (sm_mul _ _ _).symm, sm_swap]
  refine sm_congr fun i _ => ?_
  rw [← sm_mul]
  refine sm_congr fun j _ => ?_
  have : x + j * h2 + i * h1 = x + i * h1 + j * h2 := by omega
  rw [this]
  grind
theorem br_zero {x h : Nat} (e : br p n F x h = 0) : (p : Int) ∣ Ss p n F x h := by
  unfold br at e
  split at e
  · rename_i q; exact Int.dvd_of_emod_eq_zero q
  · omega
theorem br_mod (x h : Nat) : br p n F (x % p) h = br p n F x h := by unfold br; rw [Ss_mod]
theorem vote_ne {x h1 h2 : Nat} (ne : Ss p n F x h1 % (p : Int) ≠ Ss p n F x h2 % (p : Int)) : 1 ≤ sm n (fun j => br p n F (x + (j + 1) * h2) h1) + sm n (fun i => br p n F (x + (i + 1) * h1) h2) := by
  have b0 : ∀ x h, 0 ≤ br p n F x h := fun x h => by rcases br_bit p n F x h with q | q <;> omega
  have n1 : 0 ≤ sm n (fun j => br p n F (x + (j + 1) * h2) h1) := sm_nonneg fun _ _ => b0 _ _
  have n2 : 0 ≤ sm n (fun i => br p n F (x + (i + 1) * h1) h2) := sm_nonneg fun _ _ => b0 _ _
  refine Int.not_lt.mp fun lt => ne ?_
  have z1 := sm_le_one_of (fun _ _ => b0 _ _) (show sm n (fun j => br p n F (x + (j + 1) * h2) h1) = 0 by omega)
  have z2 := sm_le_one_of (fun _ _ => b0 _ _) (show sm n (fun i => br p n F (x + (i + 1) * h1) h2) = 0 by omega)
  have g := grid (p := p) (n := n) (F := F) x h1 h2
  rw [sm_split, sm_split, row0] at g
  have d1 : (p : Int) ∣ sm n (fun j => (rowL n).getD (j + 1) 0 * Ss p n F (x + (j + 1) * h2) h1) := dvd_sm fun j hj => Int.dvd_mul_of_dvd_right (br_zero (z1 j hj))
  have d2 : (p : Int) ∣ sm n (fun i => (rowL n).getD (i + 1) 0 * Ss p n F (x + (i + 1) * h1) h2) := dvd_sm fun j hj => Int.dvd_mul_of_dvd_right (br_zero (z2 j hj))
  simp only [Nat.zero_mul, Nat.add_zero, Int.one_mul] at g
  have : (p : Int) ∣ Ss p n F x h1 - Ss p n F x h2 := by
    have e : Ss p n F x h1 - Ss p n F x h2 = sm n (fun i => (rowL n).getD (i + 1) 0 * Ss p n F (x + (i + 1) * h1) h2) - sm n (fun j => (rowL n).getD (j + 1) 0 * Ss p n F (x + (j + 1) * h2) h1) := by omega
    rw [e]; exact Int.dvd_sub d2 d1
  exact Int.emod_eq_emod_iff_emod_sub_eq_zero.mpr (Int.emod_eq_zero_of_dvd this)
theorem line_sum (hp : primeB p = true) (hn : n < p) (x : Nat) {k : Nat} (k0 : 0 < k) (kn : k ≤ n) : sm p (fun h1 => sm p fun h2 => br p n F (x + k * h2) h1) = Bk p n F := by
  unfold Bk
  rw [sm_swap (fun x h => br p n F x h)]
  refine sm_congr fun h1 _ => ?_
  rw [← sm_inj (inj_mul (cop_lt hp k0 (by omega)) x) fun y => br p n F y h1]
  exact sm_congr fun h2 _ => (br_mod _ _).symm
theorem votes_le (hp : primeB p = true) (hn : n < p) (x : Nat) (v : Nat → Int) (hv : ∀ h, v h = 0 ∨ v h = 1) (hs : ∀ h1 h2, Ss p n F x h1 % (p : Int) = Ss p n F x h2 % (p : Int) → v h1 = v h2) : sm p v * ((p : Int) - sm p v) ≤ n * Bk p n F := by
  have s1 : sm p (fun h1 => sm p fun h2 => v h1 * (1 - v h2) + (1 - v h1) * v h2) ≤ sm p (fun h1 => sm p fun h2 => sm n (fun j => br p n F (x + (j + 1) * h2) h1) + sm n (fun i => br p n F (x + (i + 1) * h1) h2)) :=
    sm_le fun h1 _ => sm_le fun h2 _ => by
      have b0 : ∀ x h, 0 ≤ br p n F x h := fun x h => by rcases br_bit p n F x h with q | q <;> omega
      have n1 : 0 ≤ sm n (fun j => br p n F (x + (j + 1) * h2) h1) := sm_nonneg fun _ _ => b0 _ _
      have n2 : 0 ≤ sm n (fun i => br p n F (x + (i + 1) * h1) h2) := sm_nonneg fun _ _ => b0 _ _
      by_cases e : Ss p n F x h1 % (p : Int) = Ss p n F x h2 % (p : Int)
      · have := hs h1 h2 e
        rcases hv h1 with q | q <;> rw [q] at this ⊢ <;> rw [← this] <;> simp <;> omega
      · have := vote_ne e
        rcases hv h1 with q | q <;> rcases hv h2 with q2 | q2 <;> rw [q, q2] <;> simp <;> omega
  have l : sm p (fun h1 => sm p fun h2 => v h1 * (1 - v h2) + (1 - v h1) * v h2) = 2 * (sm p v * ((p : Int) - sm p v)) := by
    have i1 : ∀ h1, sm p (fun h2 => v h1 * (1 - v h2) + (1 - v h1) * v h2) = v h1 * ((p : Int) - sm p v) + (1 - v h1) * sm p v := fun h1 => by
      rw [sm_add, sm_mul, sm_mul, sm_sub, sm_const, Int.mul_one]
    rw [sm_congr fun h1 _ => i1 h1, sm_add, sm_mulr, sm_mulr, sm_sub, sm_const, Int.mul_one, Int.mul_comm ((p : Int) - sm p v)]
    omega
  have r : sm p (fun h1 => sm p fun h2 => sm n (fun j => br p n F (x + (j + 1) * h2) h1) + sm n (fun i => br p n F (x + (i + 1) * h1) h2)) = 2 * (n * Bk p n F) := by
    have i1 : ∀ h1, sm p (fun h2 => sm n (fun j => br p n F (x + (j + 1) * h2) h1) + sm n (fun i => br p n F (x + (i + 1) * h1) h2)) = sm n (fun j => sm p fun h2 => br p n F (x + (j + 1) * h2) h1) + sm n (fun i => sm p fun h2 => br p n F (x + (i + 1) * h1) h2) := fun h1 => by
      rw [sm_add, sm_swap, sm_swap (fun h2 i => br p n F (x + (i + 1) * h1) h2)]
    rw [sm_congr fun h1 _ => i1 h1, sm_add, sm_swap, sm_swap (fun h1 i => sm p fun h2 => br p n F (x + (i + 1) * h1) h2)]
    rw [sm_congr (n := n) (g := fun _ => Bk p n F) fun j hj => line_sum hp hn x (k := j + 1) (by omega) (by omega)]
    rw [sm_congr (n := n) (f := fun i => sm p fun h1 => sm p fun h2 => br p n F (x + (i + 1) * h1) h2) (g := fun _ => Bk p n F) fun j hj => ?_, sm_const]
    · omega
    · rw [sm_swap]; exact line_sum hp hn x (k := j + 1) (by omega) (by omega)
  omega
end
end Pm
namespace Pm
open PySem PySem.Spec L2 PyProof.Rows
/-! ### steps and curves (from the texts of k52 to k54) -/
theorem is_integer_int (i : Int) (h : VH) : m_is_integer [.int i] h = .ok (.bl true) h := by
  unfold m_is_integer
  rw [fnRun_go (σ := [some (.int i)]) _ _ _ _ rfl]
  simp only [pmS, isi_int_int, isi_int_bool, if_true]
  exact gc_same (by simp)
theorem is_number_int (i : Int) (h : VH) : m_is_number [.int i] h = .ok (.bl (decide (0 ≤ i))) h := by
  unfold m_is_number
  rw [fnRun_go (σ := [some (.int i)]) _ _ _ _ rfl]
  simp only [pmS, is_integer_int, if_true]
  exact gc_same (by simp)
theorem is_below_int (i b : Int) (h : VH) : m_is_below [.int i, .int b] h = .ok (.bl (decide (0 ≤ i ∧ i < b))) h := by
  unfold m_is_below
  rw [fnRun_go (σ := [some (.int i), some (.int b)]) _ _ _ _ rfl]
  by_cases h0 : 0 ≤ i
  · simp only [pmS, is_integer_int, if_true, h0, decide_true, true_and]
    exact gc_same (by simp)
  · simp only [pmS, is_integer_int, if_true, h0, decide_false, if_false, false_and, Bool.false_eq_true]
    exact gc_same (by simp)
theorem row_below_ok (f : List Int) (p : Int) (n : Nat) (hn : f.length = n) (hf : ∀ x ∈ f, 0 ≤ x ∧ x < p) (h : VH) : m_row_below [.tup (f.map PV.int), .int (n : Int), .int p] h = .ok (.bl true) h := by
  unfold m_row_below
  rw [fnRun_go (σ := [some (.tup (f.map PV.int)), some (.int (n : Int)), some (.int p), none]) _ _ _ _ rfl]
  simp only [pmS, isi_tup_tup, if_false, Bool.false_eq_true, List.length_map, hn, decide_true, Bool.not_true]
  refine for_go (R := fun r => fin h (r.bind (sRet (eC (.bl true)))) = .ok (.bl true) h) (fun i σ h' => h' = h ∧ ∃ a, σ = [some (.tup (f.map PV.int)), some (.int (n : Int)), some (.int p), a]) ⟨rfl, none, rfl⟩ ?_ ?_
  · rintro i x σ h' hx ⟨rfl, a, rfl⟩
    rw [List.getElem?_map] at hx
    obtain ⟨y, hy, rfl⟩ := Option.map_eq_some_iff.mp hx
    have := hf y (List.mem_of_getElem? hy)
    refine ⟨by simp, _, _, rfl, ?_⟩
    simp only [pmS, is_below_int, this.1, this.2, and_self, decide_true, Bool.not_true, if_false, Bool.false_eq_true, Turn'_nx]
    exact ⟨trivial, _, rfl⟩
  · rintro σ h' ⟨rfl, a, rfl⟩
    refine ⟨by simp, ?_⟩
    simp only [pmS]
    exact gc_same (by simp)
theorem is_prime_ok (p : Nat) (hp : primeB p = true) (hm : p ≤ 101) (h : VH) : m_is_prime [.int (p : Int), .int 101] h = .ok (.bl true) h := by
  unfold m_is_prime
  unfold primeB at hp
  rw [Bool.and_eq_true, decide_eq_true_eq] at hp
  rw [fnRun_go (σ := [some (.int (p : Int)), some (.int 101), none]) _ _ _ _ rfl]
  have h0 : (0 : Int) ≤ (p : Int) := by omega
  have h1 : (2 : Int) ≤ (p : Int) := by omega
  have h2 : (p : Int) ≤ 101 := by omega
  have hr : srcRng [.int 2, .int (p : Int)] h = .ok ⟨rngL 2 (p - 2), []⟩ h := by
    rw [srcRng2 (by omega)]
    have : ((p : Int) - 2).toNat = p - 2 := by omega
    rw [this]
  have hc := compL_bls (ck := []) (ws := [2]) (gm := gSlot 2) (mt := tYesM) (me := eBin neP (eBin modP (eVar 0) (eVar 2)) (eC (.int 0))) (σ := [some (.int (p : Int)), some (.int 101), none]) (f := fun i => !decide ((p : Int) % i = 0)) (ns := (List.range (p - 2)).map fun i : Nat => (2 + (i : Int))) (h := h) (by simp)
    (fun n hn => ⟨_, rfl, rfl, by
      obtain ⟨i, _, rfl⟩ := List.mem_map.mp hn
      have : (0 : Int) < 2 + (i : Int) := by omega
      simp only [pmS, wipeL, modP_pos this]⟩) (by simp; omega)
  rw [List.map_map] at hc
  have hc2 : compL [] [2] (gSlot 2) tYesM (eBin neP (eBin modP (eVar 0) (eVar 2)) (eC (.int 0))) [some (.int (p : Int)), some (.int 101), none] (rngL 2 (p - 2)) [] h = _ := hc
  simp only [pmS, is_number_int, h0, h1, h2, decide_true, Bool.not_true, if_false, if_true, Bool.false_eq_true, hr, hc2, allP_bls]
  rw [show (List.map (fun i => !decide ((p : Int) % i = 0)) ((List.range (p - 2)).map fun i : Nat => (2 + (i : Int)))).all id = true from ?_]
  · exact gc_same (by simp)
  · simp only [List.all_map, List.all_eq_true, List.mem_range]
    intro i hi
    have := List.all_eq_true.mp hp.2 i (List.mem_range.mpr hi)
    have e : ((p : Int) % (2 + (i : Int)) = 0) ↔ p % (i + 2) = 0 := by
      rw [show (2 + (i : Int)) = ((i + 2 : Nat) : Int) by omega, ← Int.natCast_emod]
      omega
    simp only [decide_eq_true_eq] at this
    simp [e, this]
theorem check_prime_ok (p : Nat) (hp : primeB p = true) (hm : p ≤ 101) (h : VH) : m_check_prime [.int (p : Int)] h = .ok .non h := by
  unfold m_check_prime
  rw [fnRun_go (σ := [some (.int (p : Int))]) _ _ _ _ rfl]
  simp only [pmS, is_prime_ok p hp hm, Bool.not_true, if_false, Bool.false_eq_true]
  exact gc_same (by simp)
theorem check_table_ok (p : Nat) (hp : primeB p = true) (hm : p ≤ 101) {f : List Int} (hf : Tbl p f) (h : VH) : m_check_table [.int (p : Int), .tup (f.map PV.int)] h = .ok .non h := by
  unfold m_check_table
  rw [fnRun_go (σ := [some (.int (p : Int)), some (.tup (f.map PV.int))]) _ _ _ _ rfl]
  simp only [pmS, check_prime_ok p hp hm, row_below_ok f p p hf.1 hf.2, Bool.not_true, if_false, Bool.false_eq_true]
  exact gc_same (by simp)
theorem rngL_eq (n : Nat) : rngL 0 n = ((List.range n).map fun i : Nat => (i : Int)).map PV.int := by simp [rngL, List.map_map, Function.comp_def]
theorem getD_at {f : List Int} {i : Nat} (h : i < f.length) : (f.map PV.int)[i]? = some (.int (f.getD i 0)) := by simp [h]
theorem stp_comp {p : Nat} (hp : 0 < p) (hm : p ≤ 101) {f : List Int} (hf : f.length = p) {σ : LS} {ws : List Nat} {gm : GM} {me : EM} (h : VH)
    (step : ∀ x : Nat, x < p → ∃ σ2, gm (.int (x : Int)) (wipeL σ ws) h = .ok σ2 h ∧ me σ2 h = .ok (.int ((f.getD ((x + 1) % p) 0 - f.getD x 0) % (p : Int))) h) :
    compL [] ws gm tYesM me σ (rngL 0 p) [] h = .ok ((stp p f).map PV.int) h := by
  rw [rngL_eq, compL_ints (f := fun i => (f.getD ((i.toNat + 1) % p) 0 - f.getD i.toNat 0) % (p : Int)) (by simp) (fun n hn => ?_) (by simp; omega)]
  · simp [stp, List.map_map, Function.comp_def]
  · obtain ⟨x, hx, rfl⟩ := List.mem_map.mp hn
    obtain ⟨σ2, e1, e2⟩ := step x (List.mem_range.mp hx)
    exact ⟨σ2, e1, rfl, by simpa using e2⟩
theorem anyNZ {f : List Int} : (f.map fun x => !decide (x = 0)).any id = true ↔ ¬ isZ f := by
  simp [isZ, List.any_eq_true]
def primes : List Int := [2, 3, 5, 7, 11, 13, 17, 19, 23, 29, 31, 37, 41, 43, 47, 53, 59, 61, 67, 71, 73, 79, 83, 89, 97, 101]
theorem primes_ok : ∀ q ∈ primes, q ≤ 61 → 2 ≤ q ∧ primeB q.toNat = true ∧ frob q.toNat = true := by decide +kernel
theorem prime_eq {ds : List Int} {a : Nat} {M : Int} (hM : 2 ≤ M ∧ M ≤ 61) : ∃ q : Nat, 2 ≤ q ∧ q ≤ 61 ∧ primeB q = true ∧ frob q = true ∧ m__law_prime [.ref 0, .int M] [handO ds a] = .ok (.int (q : Int)) [handO ds (a + 1)] := by
  have hl : 0 < (primes.filter fun x => decide (x ≤ M)).length := List.length_pos_of_mem (a := 2) (by rw [List.mem_filter]; exact ⟨by decide, decide_eq_true hM.1⟩)
  have hl' : (0 : Int) < ((primes.filter fun x => decide (x ≤ M)).length : Int) := by omega
  have t1 := tk_pos ds a hl'
  have t2 := tk_lt ds a hl'
  obtain ⟨i, hi⟩ := Int.eq_ofNat_of_zero_le t1
  have hi2 : i < (primes.filter fun x => decide (x ≤ M)).length := by omega
  have hm := List.getElem_mem hi2
  rw [List.mem_filter, decide_eq_true_eq] at hm
  have hM61 : M ≤ 61 := by omega
  obtain ⟨p1, p2, p3⟩ := primes_ok _ hm.1 (by omega)
  refine ⟨((primes.filter fun x => decide (x ≤ M))[i]).toNat, by omega, by omega, p2, p3, ?_⟩
  unfold m__law_prime
  rw [fnRun_go (σ := [some (.ref 0), some (.int M), none, none]) _ _ _ _ rfl]
  have hc := compL_filt (ck := []) (ws := [3]) (gm := gSlot 3) (mt := tVal (eBin leP (eVar 3) (eVar 1))) (me := eVar 3) (σ := [some (.ref 0), some (.int M), some (.lst (primes.map PV.int)), none]) (p := fun x => match x with | .int i => decide (i ≤ M) | _ => false) (f := fun x => x) (h := [handO ds a]) (by simp) (primes.map PV.int) []
    (fun x hx => by
      obtain ⟨y, _, rfl⟩ := List.mem_map.mp hx
      exact ⟨_, rfl, by simp only [pmS, wipeL], fun _ => by simp only [pmS, wipeL]⟩) (by decide)
  have hf : (primes.map PV.int).filter (fun x => match x with | .int i => decide (i ≤ M) | _ => false) = (primes.filter fun x => decide (x ≤ M)).map PV.int := by
    rw [List.filter_map]; rfl
  rw [hf, List.nil_append, List.map_id'] at hc
  have tt := take0 (ds := ds) (a := a) hl'
  rw [hi] at tt
  have e : (((primes.filter fun x => decide (x ≤ M))[i]).toNat : Int) = (primes.filter fun x => decide (x ≤ M))[i] := by omega
  rw [e]
  have g : ixP (.lst ((primes.filter fun x => decide (x ≤ M)).map PV.int)) (.int (i : Int)) [handO ds (a + 1)] = .ok (.int ((primes.filter fun x => decide (x ≤ M))[i])) [handO ds (a + 1)] := ixP_lst (by omega) (by simp [hi2])
  revert g tt hc
  generalize (primes.filter fun x => decide (x ≤ M))[i] = q
  generalize (primes.filter fun x => decide (x ≤ M)) = L
  intro hc tt g
  simp only [primes, List.map_cons, List.map_nil] at hc
  simp only [pmS, hc, List.length_map, tt, g]
  exact gc_st (h := [handO ds a]) (i := 0) (handO_closed _ _) (by simp)
theorem value_eq {p : Nat} (hp : 0 < p) (hm : p ≤ 101) (c : List Int) (hc : c.length ≤ 1000) (x : Nat) (hx : x < p) (h : VH) : m__law_value [.int (p : Int), .tup (c.map PV.int), .int (x : Int)] h = .ok (.int (hor c x % (p : Int))) h := by
  unfold m__law_value
  rw [fnRun_go (σ := [some (.int (p : Int)), some (.tup (c.map PV.int)), some (.int (x : Int)), none, none]) _ _ _ _ rfl]
  simp only [pmS, revP_tup]
  have e0 : (0 : Int) < (p : Int) := by omega
  refine for_go (R := fun r => fin h (r.bind (sRet (eVar 3))) = .ok (.int (hor c x % (p : Int))) h) (fun i σ h' => h' = h ∧ i ≤ c.length ∧ ∃ a, σ = [some (.int (p : Int)), some (.tup (c.map PV.int)), some (.int (x : Int)), some (.int (hor (c.drop (c.length - i)) x % (p : Int))), a])
    ⟨rfl, Nat.zero_le _, none, by simp [hor]⟩ ?_ ?_
  · rintro i y σ h' hy ⟨rfl, hi, a, rfl⟩
    have hy2 := rev_at hy
    rw [List.length_map, List.getElem?_map] at hy2
    have hi2 : i < c.length := by
      have := (List.getElem?_eq_some_iff.mp hy).1
      simpa using this
    have hj : c.length - 1 - i < c.length := by omega
    rw [List.getElem?_eq_getElem hj] at hy2
    cases hy2
    refine ⟨by simp, _, _, rfl, ?_⟩
    have b1 := Int.emod_nonneg (hor (c.drop (c.length - i)) x) (show (p : Int) ≠ 0 by omega)
    have b2 := Int.emod_lt_of_pos (hor (c.drop (c.length - i)) x) e0
    have ml : ∀ h, mulP false (.int (hor (c.drop (c.length - i)) x % (p : Int))) (.int (x : Int)) h = .ok (.int (hor (c.drop (c.length - i)) x % (p : Int) * (x : Int))) h := fun h => mulP_l (by omega) (by omega)
    simp only [pmS, ml, modP_pos e0, Turn'_nx]
    refine ⟨trivial, by omega, some (.int c[c.length - 1 - i]), ?_⟩
    have hd : c.drop (c.length - (i + 1)) = c[c.length - 1 - i] :: c.drop (c.length - i) := by
      have e1 : c.length - (i + 1) = c.length - 1 - i := by omega
      have e2 : c.length - i = c.length - 1 - i + 1 := by omega
      rw [e1, e2]; exact List.drop_eq_getElem_cons hj
    rw [hd]
    have : (hor (c.drop (c.length - i)) x % (p : Int) * (x : Int) + c[c.length - 1 - i]) % (p : Int) = hor (c[c.length - 1 - i] :: c.drop (c.length - i)) x % (p : Int) := by
      show _ = (c[c.length - 1 - i] + (x : Int) * hor (c.drop (c.length - i)) x) % (p : Int)
      rw [Int.add_comm]
      refine emod_add_mul_eq _ rfl _ ?_
      rw [Int.mul_comm (x : Int), Int.mul_emod, Int.emod_emod_of_dvd _ (Int.dvd_refl _), ← Int.mul_emod]
    rw [this]
  · rintro σ h' ⟨rfl, hi, a, rfl⟩
    refine ⟨by simp, ?_⟩
    simp only [pmS, List.length_reverse, List.length_map, Nat.sub_self, List.drop_zero]
    exact gc_same (by simp)
theorem curve_eq {ds : List Int} {a d : Nat} {p : Int} (hp : 0 < p) (hd : d ≤ 100) : m__law_curve [.ref 0, .int p, .int (d : Int)] [handO ds a] = .ok (.tup ((tks ds a p (d + 1)).map PV.int)) [handO ds (a + (d + 1))] := by
  unfold m__law_curve
  rw [fnRun_go (σ := [some (.ref 0), some (.int p), some (.int (d : Int)), none]) _ _ _ _ rfl]
  have hr := srcRng1 (j := (d : Int) + 1) (h := [handO ds a]) (by omega)
  have e : ((d : Int) + 1).toNat = d + 1 := by omega
  rw [e] at hr
  have hc := tks_comp (ds := ds) (a := a) (n := d + 1) hp (by omega) (σ := [some (.ref 0), some (.int p), some (.int (d : Int)), none]) (ws := [3]) (gm := gSlot 3) (me := eCall m__law_take (aCons (eVar 0) (aCons (eVar 1) aNil))) fun x b => ⟨_, rfl, by simp only [pmS, wipeL, take0 hp]⟩
  simp only [pmS, hr, hc]
  exact gc_st (h := [handO ds a]) (i := 0) (handO_closed _ _) (by simp)
theorem turns_eq {ds : List Int} {a : Nat} {p : Nat} (hp : 0 < p) (hm : p ≤ 101) {f : List Int} (hf : Tbl p f) {m : Nat} (hmm : m ≤ 1000) : ∃ f', Tbl p f' ∧ m__law_turned [.ref 0, .int (p : Int), .tup (f.map PV.int), .int (m : Int)] [handO ds a] = .ok (.tup (f'.map PV.int)) [handO ds (a + 2 * m)] := by
  have e0 : (0 : Int) < (p : Int) := by omega
  have lp : listP true (.tup (f.map PV.int)) [handO ds a] = .ok (.ref 1) [handO ds a, .lst (f.map PV.int)] := rfl
  have hr : ∀ h, srcRng [.int (m : Int)] h = .ok ⟨rngL 0 m, []⟩ h := fun h => by rw [srcRng1 (by omega), Int.toNat_natCast]
  suffices ∃ f', Tbl p f' ∧ ∃ x, forL [] (gSlot 4) (sAsg (eCall m__law_take (aCons (eVar 0) (aCons (eVar 1) aNil))) (gSubM (eVar 2) (eCall m__law_take (aCons (eVar 0) (aCons (eVar 1) aNil))))) (rngL 0 m) [some (.ref 0), some (.int (p : Int)), some (.ref 1), some (.int (m : Int)), none] [handO ds a, .lst (f.map PV.int)] = .nx [some (.ref 0), some (.int (p : Int)), some (.ref 1), some (.int (m : Int)), x] [handO ds (a + 2 * m), .lst (f'.map PV.int)] by
    obtain ⟨f', h1, x, h2⟩ := this
    refine ⟨f', h1, ?_⟩
    unfold m__law_turned
    rw [fnRun_go (σ := [some (.ref 0), some (.int (p : Int)), some (.tup (f.map PV.int)), some (.int (m : Int)), none]) _ _ _ _ rfl]
    simp only [pmS, lp, hr]
    rw [h2]
    have tp : tupleP (.ref 1) [handO ds (a + 2 * m), .lst (f'.map PV.int)] = .ok (.tup (f'.map PV.int)) [handO ds (a + 2 * m), .lst (f'.map PV.int)] := rfl
    simp only [pmS, tp]
    exact gc_stA (h := [handO ds a]) (j := [.lst _]) (i := 0) (handO_closed _ _) ((closedV_tup _).mpr (closedVs_ints _))
  refine for_go (R := fun r => ∃ f', Tbl p f' ∧ ∃ x, r = .nx [some (.ref 0), some (.int (p : Int)), some (.ref 1), some (.int (m : Int)), x] [handO ds (a + 2 * m), .lst (f'.map PV.int)]) (fun i σ h => ∃ g, Tbl p g ∧ ∃ x, σ = [some (.ref 0), some (.int (p : Int)), some (.ref 1), some (.int (m : Int)), x] ∧ h = [handO ds (a + 2 * i), .lst (g.map PV.int)]) ⟨f, hf, none, rfl, rfl⟩ ?_ ?_
  · rintro i y σ h hy ⟨g, hg, x, rfl, rfl⟩
    refine ⟨by simp, _, _, rfl, ?_⟩
    have t1 := tk_pos ds (a + 2 * i + 1) e0
    have t2 := tk_lt ds (a + 2 * i + 1) e0
    have u1 := tk_pos ds (a + 2 * i) e0
    have u2 := tk_lt ds (a + 2 * i) e0
    have k0 : m__law_take [.ref 0, .int (p : Int)] [handO ds (a + 2 * i), .lst (g.map PV.int)] = .ok (.int (tk ds (a + 2 * i) (p : Int))) [handO ds (a + 2 * i + 1), .lst (g.map PV.int)] := take_eq rfl e0
    have k1 : m__law_take [.ref 0, .int (p : Int)] [handO ds (a + 2 * i + 1), .lst (g.map PV.int)] = .ok (.int (tk ds (a + 2 * i + 1) (p : Int))) [handO ds (a + 2 * (i + 1)), .lst (g.map PV.int)] := take_eq rfl e0
    have st : setP (.ref 1) (.int (tk ds (a + 2 * i + 1) (p : Int))) (.int (tk ds (a + 2 * i) (p : Int))) [handO ds (a + 2 * (i + 1)), .lst (g.map PV.int)] = .ok () [handO ds (a + 2 * (i + 1)), .lst ((g.set (tk ds (a + 2 * i + 1) (p : Int)).toNat (tk ds (a + 2 * i) (p : Int))).map PV.int)] := by
      rw [setP_ok (i := 1) rfl (ixN_pos t1 (by rw [List.length_map, hg.1]; exact t2)), List.map_set]; rfl
    simp only [pmS, k0, k1, st, Turn'_nx]
    refine ⟨g.set (tk ds (a + 2 * i + 1) (p : Int)).toNat (tk ds (a + 2 * i) (p : Int)), ⟨by rw [List.length_set]; exact hg.1, fun x hx => ?_⟩, _, rfl, rfl⟩
    rcases List.mem_or_eq_of_mem_set hx with q | q
    · exact hg.2 x q
    · rw [q]; exact ⟨u1, u2⟩
  · rintro σ h ⟨g, hg, x, rfl, rfl⟩
    refine ⟨by simp, g, hg, x, ?_⟩
    simp [rngL]

theorem canLay_ints : ∀ xs : List Int, PyData.canLayAll0 (xs.map PyData.int) = true
  | [] => rfl
  | x :: xs => by simp [PyData.canLayAll0, PyData.canLay0, canLay_ints xs]
theorem log2_lt {i : Int} {k : Nat} (h : i.natAbs < 2 ^ k) (hk : 0 < k) : i.natAbs.log2 < k := by
  by_cases e : i.natAbs = 0
  · rw [e]; simpa using hk
  · exact (Nat.log2_lt e).mpr h
theorem show_ints : ∀ {xs : List Int}, (∀ x ∈ xs, x.natAbs < 2 ^ 64) → PyData.showableAll (xs.map PyData.int) = true
  | [], _ => rfl
  | x :: xs, h => by
    have := log2_lt (h x List.mem_cons_self) (by omega)
    simp [PyData.showableAll, PyData.showable, show_ints fun y hy => h y (List.mem_cons_of_mem _ hy)]
    omega
theorem wt_ints {xs : List Int} (h : ∀ x ∈ xs, x.natAbs < 2 ^ 64) : wtAll (xs.map PyData.int) ≤ xs.length * 69 := by
  have := wtAll_le (B := 67) (xs := xs.map PyData.int) fun y hy => by
    obtain ⟨x, hx, rfl⟩ := List.mem_map.mp hy
    have := log2_lt (h x hx) (by omega)
    rw [wt_int]; omega
  rw [List.length_map] at this
  exact this
theorem okR_int {i : Int} (h : i.natAbs < 2 ^ 64) : okR (.int i) := by
  have := log2_lt h (by omega)
  exact ⟨rfl, by simp [PyData.showable]; omega, by rw [wt_int]; omega⟩
theorem okR_tup {xs : List Int} (h : ∀ x ∈ xs, x.natAbs < 2 ^ 64) (hl : xs.length ≤ 200000) : okR (.tuple (xs.map .int)) := by
  have := wt_ints h
  exact ⟨by simpa [PyData.canLay0] using canLay_ints xs, by simpa [PyData.showable] using show_ints h, by rw [wt_tuple]; omega⟩
theorem repr_int {i : Int} {h : VH} (b : i.natAbs < 2 ^ 64) : reprP (.int i) h = .ok (.str (PyData.shown (.int i))) h := reprP_ok (by simp) (okR_int b)
theorem repr_tup {xs : List Int} {h : VH} (b : ∀ x ∈ xs, x.natAbs < 2 ^ 64) (hl : xs.length ≤ 200000) : reprP (.tup (xs.map PV.int)) h = .ok (.str (PyData.shown (.tuple (xs.map .int)))) h :=
  reprP_ok (by show toD h 12 _ = _; rw [toD_tup, allD_ints]; rfl) (okR_tup b hl)
def ownD (c : List Int) : Int := maxL (-1 :: ((List.range c.length).filter fun k => decide (0 < c.getD k 0)).map fun k : Nat => (k : Int))
theorem ownD_spec {p : Nat} (hp : primeB p = true) {c : List Int} (hl : c.length ≤ p) (hc : ∀ x ∈ c, 0 ≤ x ∧ x < (p : Int)) :
    ∃ n : Nat, n ≤ p ∧ ownD c = (n : Int) - 1 ∧ isZ (stpN p n (tab' p (hor c))) ∧ ∀ j, j < n → ¬ isZ (stpN p j (tab' p (hor c))) := by
  have hp0 : 0 < p := by unfold primeB at hp; rw [Bool.and_eq_true, decide_eq_true_eq] at hp; omega
  obtain ⟨q1, q2⟩ := maxL_spec (ns := -1 :: ((List.range c.length).filter fun k => decide (0 < c.getD k 0)).map fun k : Nat => (k : Int)) (by simp)
  have up : ∀ k, k < c.length → 0 < c.getD k 0 → (k : Int) ≤ ownD c := fun k hk h0 => q2 _ (List.mem_cons_of_mem _ (List.mem_map.mpr ⟨k, List.mem_filter.mpr ⟨List.mem_range.mpr hk, by simpa using h0⟩, rfl⟩))
  have gz : ∀ k, k < c.length → ¬ 0 < c.getD k 0 → c.getD k 0 = 0 := fun k hk h0 => by
    have : c.getD k 0 ∈ c := by simp [List.getD_eq_getElem?_getD, hk]
    have := (hc _ this).1
    omega
  rcases List.mem_cons.mp q1 with e | e
  · refine ⟨0, Nat.zero_le _, by show maxL _ = _; rw [e]; rfl, ?_, fun j hj => absurd hj (Nat.not_lt_zero _)⟩
    have z : ∀ x ∈ c, x = 0 := fun x hx => by
      obtain ⟨k, hk, rfl⟩ := List.mem_iff_getElem.mp hx
      have g : c.getD k 0 = c[k] := by simp [List.getD_eq_getElem?_getD, hk]
      rw [← g]
      refine gz k hk fun h0 => ?_
      have := up k hk h0
      have e' : ownD c = -1 := e
      omega
    have hz := hor_zeros [] c z
    intro x hx
    obtain ⟨i, _, rfl⟩ := List.mem_map.mp hx
    rw [List.nil_append] at hz
    rw [hz]; rfl
  · obtain ⟨m, hm, em⟩ := List.mem_map.mp e
    rw [List.mem_filter, List.mem_range, decide_eq_true_eq] at hm
    have e' : ownD c = (m : Int) := em.symm
    have hg : c.getD m 0 = c[m] := by simp [List.getD_eq_getElem?_getD, hm.1]
    have hd : c = c.take m ++ [c[m]] ++ c.drop (m + 1) := by
      have := List.take_append_drop m c
      rw [List.drop_eq_getElem_cons hm.1] at this
      rw [List.append_assoc]; exact this.symm
    have hz : ∀ z ∈ c.drop (m + 1), z = 0 := fun z hz => by
      obtain ⟨k, hk, rfl⟩ := List.mem_iff_getElem.mp hz
      rw [List.length_drop] at hk
      rw [List.getElem_drop]
      have hk2 : m + 1 + k < c.length := by omega
      have g : c.getD (m + 1 + k) 0 = c[m + 1 + k] := by simp [List.getD_eq_getElem?_getD, hk2]
      rw [← g]
      refine gz _ hk2 fun h0 => ?_
      have := up _ hk2 h0
      omega
    have hb := hc _ (List.getElem_mem hm.1)
    have := hor_degree hp (by omega : m < p) (c := c.take m) (a := c[m]) (zs := c.drop (m + 1)) (by rw [List.length_take]; omega) (by rw [← hg]; exact hm.2) hb.2 hz
    rw [← hd] at this
    exact ⟨m + 1, by omega, by rw [e']; push_cast; omega, this.1, this.2⟩
theorem any_degree {p : Nat} (hp : 0 < p) (hc : frob p = true) {f : List Int} (hf : Tbl p f) : ∃ n : Nat, n ≤ p ∧ isZ (stpN p n f) ∧ ∀ j, j < n → ¬ isZ (stpN p j f) := least (P := fun n => isZ (stpN p n f)) (stpN_p hp hf hc)
theorem tk2 (ds : List Int) (a : Nat) : tk ds a 2 = 0 ∨ tk ds a 2 = 1 := by
  have h1 := tk_pos ds a (show (0 : Int) < 2 by omega)
  have h2 := tk_lt ds a (show (0 : Int) < 2 by omega)
  omega
theorem tk3 (ds : List Int) (a : Nat) : tk ds a 3 = 0 ∨ tk ds a 3 = 1 ∨ tk ds a 3 = 2 := by
  have h1 := tk_pos ds a (show (0 : Int) < 3 by omega)
  have h2 := tk_lt ds a (show (0 : Int) < 3 by omega)
  omega
theorem natAbs_small {x : Int} (h : 0 ≤ x) (h2 : x < 1000000) : x.natAbs < 2 ^ 64 := by omega

def wayL : Nat → List Int
  | 0 => [1]
  | n + 1 => 1 :: ((List.range n).map (fun i => (wayL n).getD i 0 + (wayL n).getD (i + 1) 0)) ++ [1]
theorem wayL_length : ∀ n, (wayL n).length = n + 1
  | 0 => rfl
  | n + 1 => by simp [wayL]
theorem zip_get {A B : List Int} {i : Nat} {x : PV} (h : (zipL (A.map PV.int) (B.map PV.int))[i]? = some x) : i < A.length ∧ i < B.length ∧ x = .tup [.int (A.getD i 0), .int (B.getD i 0)] := by
  obtain ⟨u, v, h1, h2, h3⟩ := zipL_get h
  obtain ⟨a, rfl⟩ := ints_get h1
  obtain ⟨b, rfl⟩ := ints_get h2
  exact ⟨a, b, h3⟩
theorem cut1 (L : List Int) : cutP (L.map PV.int) (some 1) none = (L.drop 1).map PV.int := by
  unfold cutP
  cases L with
  | nil => rfl
  | cons a L => simp [HT.sIx]; rw [List.take_of_length_le (by simp)]
theorem ways_ok {k : Nat} (hk : k ≤ 100) (h : VH) : m_ways_of [.int (k : Int)] h = .ok (.lst ((wayL k).map PV.int)) h := by
  unfold m_ways_of
  rw [fnRun_go (σ := [some (.int (k : Int)), none, none, none, none]) _ _ _ _ rfl]
  simp only [pmS, srcRngN h (show k ≤ 1000000 by omega)]
  refine for_go (R := fun r => fin h (r.bind (sRet (eVar 1))) = .ok (.lst ((wayL k).map PV.int)) h) (fun i σ h' => h' = h ∧ ∃ a, σ = [some (.int (k : Int)), some (.lst ((wayL i).map PV.int)), a, none, none]) ⟨rfl, none, rfl⟩ ?_ ?_
  · rintro i x σ h' hx ⟨rfl, a, rfl⟩
    obtain ⟨hi, rfl⟩ := rng_get hx
    refine ⟨by simp, _, _, rfl, ?_⟩
    have l := wayL_length i
    have e1 : compL [] [3, 4] (gTupM 2 (gCons' (gSlot 3) (gCons' (gSlot 4) gNil'))) tYesM (eBin (addP false) (eVar 3) (eVar 4)) [some (.int (k : Int)), some (.lst ((wayL i).map PV.int)), some (.int (i : Int)), none, none] (zipL ((wayL i).map PV.int) (((wayL i).drop 1).map PV.int)) [] h' = .ok (((List.range i).map (fun j => (wayL i).getD j 0 + (wayL i).getD (j + 1) 0)).map PV.int) h' := by
      refine comp_ints (by simp) (by rw [zipL_length]; simp [l]) _ (fun j x hj => ?_) (by omega)
      obtain ⟨j1, j2, rfl⟩ := zip_get hj
      exact ⟨_, rfl, rfl, by simp only [pmS, wipeL]; simp⟩
    simp only [pmS, pmT, cut1, e1]
    have a1 : addP false (.lst [.int 1]) (.lst (((List.range i).map (fun j => (wayL i).getD j 0 + (wayL i).getD (j + 1) 0)).map PV.int)) h' = _ := addP_ll h' (by simp; omega)
    have a2 : addP false (.lst ([.int 1] ++ ((List.range i).map (fun j => (wayL i).getD j 0 + (wayL i).getD (j + 1) 0)).map PV.int)) (.lst [.int 1]) h' = _ := addP_ll h' (by simp; omega)
    rw [a1]
    simp only [pmS]
    rw [a2]
    simp only [pmS, Turn'_nx]
    exact ⟨trivial, some (.int (i : Int)), by simp [wayL]⟩
  · rintro σ h' ⟨rfl, a, rfl⟩
    refine ⟨by simp, ?_⟩
    simp only [pmS, rng_len]
    exact gc_same (by simp)
theorem way_row : ∀ d, d ≤ 4 → (List.range (d + 2)).map (fun j => if j % 2 = 0 then (wayL (d + 1)).getD j 0 else -(wayL (d + 1)).getD j 0) = rowL (d + 1) := by decide +kernel
theorem fac_ok {d : Nat} (hd : d ≤ 4) (h : VH) : m_factors_of [.int (d : Int)] h = .ok (.lst ((rowL (d + 1)).map PV.int)) h := by
  unfold m_factors_of
  rw [fnRun_go (σ := [some (.int (d : Int)), none, none]) _ _ _ _ rfl]
  have e1 : m_ways_of [.int ((d : Int) + 1)] h = .ok (.lst ((wayL (d + 1)).map PV.int)) h := by
    have := ways_ok (k := d + 1) (by omega) h
    rwa [show ((d + 1 : Nat) : Int) = (d : Int) + 1 by omega] at this
  have e2 : compL [] [1, 2] (gTupM 2 (gCons' (gSlot 1) (gCons' (gSlot 2) gNil'))) tYesM (eIfM (tVal (eBin eqP (eBin modP (eVar 1) (eC (.int 2))) (eC (.int 0)))) (eVar 2) (eUn negP (eVar 2))) [some (.int (d : Int)), none, none] (enumL ((wayL (d + 1)).map PV.int)) [] h = .ok ((rowL (d + 1)).map PV.int) h := by
    rw [← way_row d hd]
    refine comp_ints (by simp) (by rw [enumL_length]; simp [wayL_length]) _ (fun j x hj => ?_) (by omega)
    obtain ⟨y, h1, rfl⟩ := enumL_get hj
    obtain ⟨h2, rfl⟩ := ints_get h1
    refine ⟨_, rfl, rfl, ?_⟩
    simp only [pmS, wipeL, modP_pos (show (0 : Int) < 2 by omega)]
    by_cases q : (j : Int) % 2 = 0
    · have : j % 2 = 0 := by omega
      simp only [q, this, decide_true, if_true, pmS]
    · have : ¬ j % 2 = 0 := by omega
      simp only [q, this, decide_false, if_false, Bool.false_eq_true, pmS]
  simp only [pmS, e1, srcEnum_lst, e2]
  exact gc_same (by simp)
theorem subZ_get : ∀ (as bs : List Int), as.length = bs.length → ∀ j, (subZ as bs).getD j 0 = as.getD j 0 - bs.getD j 0
  | [], [], _, j => by simp [subZ]
  | a :: as, b :: bs, q, 0 => by simp [subZ]
  | a :: as, b :: bs, q, j + 1 => by have := subZ_get as bs (by simpa using q) j; simpa [subZ] using this
theorem steps_ok {d : Nat} (hd : d ≤ 4) (h : VH) : m__law_steps [.int (d : Int)] h = .ok (.lst ((rowL (d + 1)).map PV.int)) h := by
  unfold m__law_steps
  rw [fnRun_go (σ := [some (.int (d : Int)), none, none, none, none]) _ _ _ _ rfl]
  have hr : srcRng [.int ((d : Int) + 1)] h = .ok ⟨rngL 0 (d + 1), []⟩ h := srcRngN (n := d + 1) h (by omega)
  simp only [pmS, hr]
  refine for_go (R := fun r => fin h (r.bind (sRet (eVar 1))) = .ok (.lst ((rowL (d + 1)).map PV.int)) h) (fun i σ h' => h' = h ∧ ∃ a, σ = [some (.int (d : Int)), some (.lst ((rowL i).map PV.int)), a, none, none]) ⟨rfl, none, rfl⟩ ?_ ?_
  · rintro i x σ h' hx ⟨rfl, a, rfl⟩
    obtain ⟨hi, rfl⟩ := rng_get hx
    refine ⟨by simp, _, _, rfl, ?_⟩
    have l := rowL_length i
    have a1 : addP false (.lst ((rowL i).map PV.int)) (.lst [.int 0]) h' = .ok (.lst ((rowL i ++ [0]).map PV.int)) h' := by rw [addP_ll h' (by simp; omega)]; simp
    have a2 : addP false (.lst [.int 0]) (.lst ((rowL i).map PV.int)) h' = .ok (.lst ((0 :: rowL i).map PV.int)) h' := by rw [addP_ll h' (by simp; omega)]; simp
    have e1 : compL [] [3, 4] (gTupM 2 (gCons' (gSlot 3) (gCons' (gSlot 4) gNil'))) tYesM (eBin subP (eVar 3) (eVar 4)) [some (.int (d : Int)), some (.lst ((rowL i).map PV.int)), some (.int (i : Int)), none, none] (zipL ((rowL i ++ [0]).map PV.int) ((0 :: rowL i).map PV.int)) [] h' = .ok ((rowL (i + 1)).map PV.int) h' := by
      have q : (List.range (i + 2)).map (fun j => (rowL i ++ [0]).getD j 0 - (0 :: rowL i).getD j 0) = rowL (i + 1) := by
        apply List.ext_getElem
        · simp [rowL_length]
        · intro j h1 h2
          rw [List.getElem_map, List.getElem_range]
          have : (rowL (i + 1))[j] = (rowL (i + 1)).getD j 0 := by simp [List.getD_eq_getElem?_getD, h2]
          rw [this, show rowL (i + 1) = subZ (rowL i ++ [0]) (0 :: rowL i) from rfl, subZ_get _ _ (by simp) j]
      rw [← q]
      refine comp_ints (by simp) (by rw [zipL_length]; simp [l]) _ (fun j x hj => ?_) (by omega)
      obtain ⟨j1, j2, rfl⟩ := zip_get hj
      exact ⟨_, rfl, rfl, by simp only [pmS, wipeL]⟩
    simp only [pmS, pmT, a1, a2, e1, Turn'_nx]
    exact ⟨trivial, some (.int (i : Int)), rfl⟩
  · rintro σ h' ⟨rfl, a, rfl⟩
    refine ⟨by simp, ?_⟩
    simp only [pmS, rng_len]
    exact gc_same (by simp)
theorem mod_cast3 (p x i h : Nat) : ((x : Int) + (i : Int) * (h : Int)) % (p : Int) = (((x + i * h) % p : Nat) : Int) := by push_cast; rfl
theorem step_sum_ok {p n : Nat} (hp : 0 < p) (hm : p ≤ 101) {F : List Int} (hT : Tbl p F) (hn : n ≤ 100) (x h : Nat) (hh : h < p) (H : VH) : m_step_sum [.int (p : Int), .lst ((rowL n).map PV.int), .tup (F.map PV.int), .int (x : Int), .int (h : Int)] H = .ok (.int (Ss p n F x h % (p : Int))) H := by
  unfold m_step_sum
  rw [fnRun_go (σ := [some (.int (p : Int)), some (.lst ((rowL n).map PV.int)), some (.tup (F.map PV.int)), some (.int (x : Int)), some (.int (h : Int)), none, none]) _ _ _ _ rfl]
  have pI : (0 : Int) < (p : Int) := by omega
  have hF := hT.1
  have e1 : compL [] [5, 6] (gTupM 2 (gCons' (gSlot 5) (gCons' (gSlot 6) gNil'))) tYesM (eBin (mulP false) (eVar 6) (eBin ixP (eVar 2) (eBin modP (eBin (addP false) (eVar 3) (eBin (mulP false) (eVar 5) (eVar 4))) (eVar 0)))) [some (.int (p : Int)), some (.lst ((rowL n).map PV.int)), some (.tup (F.map PV.int)), some (.int (x : Int)), some (.int (h : Int)), none, none] (enumL ((rowL n).map PV.int)) [] H = .ok (((List.range (n + 1)).map fun i => (rowL n).getD i 0 * F.getD ((x + i * h) % p) 0).map PV.int) H := by
    refine comp_ints (by simp) (by rw [enumL_length]; simp [rowL_length]) _ (fun j y hj => ?_) (by omega)
    obtain ⟨z, h1, rfl⟩ := enumL_get hj
    obtain ⟨h2, rfl⟩ := ints_get h1
    refine ⟨_, rfl, rfl, ?_⟩
    have m1 : mulP false (.int (j : Int)) (.int (h : Int)) H = .ok (.int ((j : Int) * (h : Int))) H := mulP_r (by omega) (by omega)
    have b := tbl_get hT (Nat.mod_lt (x + j * h) hp)
    have m2 : mulP false (.int ((rowL n).getD j 0)) (.int (F.getD ((x + j * h) % p) 0)) H = .ok (.int ((rowL n).getD j 0 * F.getD ((x + j * h) % p) 0)) H := mulP_r (by omega) (by omega)
    simp only [pmS, wipeL, m1, m2, modP_pos pI, mod_cast3, ixN_tup H (show (x + j * h) % p < F.length by rw [hF]; exact Nat.mod_lt _ hp)]
  simp only [pmS, pmU, e1, sumP_ints, sm_list, modP_pos pI]
  exact gc_same (by simp)
theorem check_degree_ok {p d : Nat} (hp : primeB p = true) (hm : p ≤ 101) (hd : d ≤ 4) (hdp : d + 2 ≤ p) {F : List Int} (hF : Tbl p F) (H : VH) : m_check_degree [.int (p : Int), .int (d : Int), .tup (F.map PV.int)] H = .ok .non H := by
  unfold m_check_degree
  rw [fnRun_go (σ := [some (.int (p : Int)), some (.int (d : Int)), some (.tup (F.map PV.int))]) _ _ _ _ rfl]
  simp only [pmS, check_prime_ok p hp hm, is_number_int, check_table_ok p hp hm hF, decide_eq_true (show (0 : Int) ≤ (d : Int) by omega), decide_eq_false (show ¬ (4 : Int) < (d : Int) by omega), decide_eq_false (show ¬ (p : Int) < (d : Int) + 2 by omega), Bool.not_true, if_false, Bool.false_eq_true]
  exact gc_same (by simp)
theorem row_count (p n : Nat) (F : List Int) (x : Nat) : (((List.range p).filter fun h => !decide (Ss p n F x h % (p : Int) = 0)).length : Int) = sm p fun h => br p n F x h := by
  rw [sm_count]
  refine sm_congr fun h _ => ?_
  unfold br
  by_cases q : Ss p n F x h % (p : Int) = 0
  · rw [if_pos q]; simp [q]
  · rw [if_neg q]; simp [q]
theorem broken_ok {p d : Nat} (hp : primeB p = true) (hm : p ≤ 101) (hd : d ≤ 4) (hdp : d + 2 ≤ p) {F : List Int} (hF : Tbl p F) (H : VH) : m_broken_steps [.int (p : Int), .int (d : Int), .tup (F.map PV.int)] H = .ok (.int (Bk p (d + 1) F)) H := by
  unfold m_broken_steps
  rw [fnRun_go (σ := [some (.int (p : Int)), some (.int (d : Int)), some (.tup (F.map PV.int)), none, none, none, none]) _ _ _ _ rfl]
  have hr := srcRngN (n := p) H (by omega)
  simp only [pmS, check_degree_ok hp hm hd hdp hF, fac_ok hd, hr]
  refine for_go (R := fun r => fin H (r.bind (sRet (eVar 4))) = .ok (.int (Bk p (d + 1) F)) H) (fun i σ h' => h' = H ∧ ∃ a, σ = [some (.int (p : Int)), some (.int (d : Int)), some (.tup (F.map PV.int)), some (.lst ((rowL (d + 1)).map PV.int)), some (.int (sm i fun x => sm p fun h => br p (d + 1) F x h)), a, none]) ⟨rfl, none, rfl⟩ ?_ ?_
  · rintro i x σ h' hx ⟨rfl, a, rfl⟩
    obtain ⟨hi, rfl⟩ := rng_get hx
    refine ⟨by simp, _, _, rfl, ?_⟩
    have e1 : compL [] [6] (gSlot 6) (tVal (eBin neP (eCall m_step_sum (aCons (eVar 0) (aCons (eVar 3) (aCons (eVar 2) (aCons (eVar 5) (aCons (eVar 6) aNil)))))) (eC (.int 0)))) (eVar 6) [some (.int (p : Int)), some (.int (d : Int)), some (.tup (F.map PV.int)), some (.lst ((rowL (d + 1)).map PV.int)), some (.int (sm i fun x => sm p fun h => br p (d + 1) F x h)), some (.int (i : Int)), none] (rngL 0 p) [] h' = .ok (((List.range p).filter fun h => !decide (Ss p (d + 1) F i h % (p : Int) = 0)).map fun h : Nat => PV.int (h : Int)) h' :=
      comp_rngF (by simp) _ _ (fun j hj => ⟨_, rfl, by simp only [pmS, wipeL, step_sum_ok (show 0 < p by omega) hm hF (show d + 1 ≤ 100 by omega) i j hj], fun _ => by simp only [pmS, wipeL]⟩) (by omega)
    simp only [pmS, hr, e1, List.length_map, row_count, pmU]
    exact ⟨trivial, some (.int (i : Int)), rfl⟩
  · rintro σ h' ⟨rfl, a, rfl⟩
    refine ⟨by simp, ?_⟩
    simp only [pmS, rng_len]
    exact gc_same (by simp)
theorem law_broken_ok {p d : Nat} (hp0 : 0 < p) (hm : p ≤ 101) (hd : d ≤ 4) {F : List Int} (hF : Tbl p F) (H : VH) : m__law_broken [.int (p : Int), .int (d : Int), .tup (F.map PV.int)] H = .ok (.int (Bk p (d + 1) F)) H := by
  unfold m__law_broken
  rw [fnRun_go (σ := [some (.int (p : Int)), some (.int (d : Int)), some (.tup (F.map PV.int)), none, none, none, none, none, none]) _ _ _ _ rfl]
  have pI : (0 : Int) < (p : Int) := by omega
  have hr := srcRngN (n := p) H (by omega)
  have hr2 : srcRng [.int ((d : Int) + 2)] H = .ok ⟨rngL 0 (d + 2), []⟩ H := srcRngN (n := d + 2) H (by omega)
  simp only [pmS, steps_ok hd, hr]
  refine for_go (R := fun r => fin H (r.bind (sRet (eVar 3))) = .ok (.int (Bk p (d + 1) F)) H) (fun i σ h' => h' = H ∧ ∃ a b e, σ = [some (.int (p : Int)), some (.int (d : Int)), some (.tup (F.map PV.int)), some (.int (sm i fun x => sm p fun h => br p (d + 1) F x h)), some (.lst ((rowL (d + 1)).map PV.int)), a, b, e, none]) ⟨rfl, none, none, none, rfl⟩ ?_ ?_
  · rintro i x σ h' hx ⟨rfl, a, b, e, rfl⟩
    obtain ⟨hi, rfl⟩ := rng_get hx
    refine ⟨by simp, _, _, rfl, ?_⟩
    simp only [pmS, hr]
    refine for_go (R := fun r => Turn' _ _ r) (fun j σ h'' => h'' = h' ∧ ∃ b e, σ = [some (.int (p : Int)), some (.int (d : Int)), some (.tup (F.map PV.int)), some (.int ((sm i fun x => sm p fun h => br p (d + 1) F x h) + sm j fun h => br p (d + 1) F i h)), some (.lst ((rowL (d + 1)).map PV.int)), some (.int (i : Int)), b, e, none]) ⟨rfl, b, e, by simp [sm]⟩ ?_ ?_
    · rintro j x σ h'' hx ⟨rfl, b, e, rfl⟩
      obtain ⟨hj, rfl⟩ := rng_get hx
      refine ⟨by simp, _, _, rfl, ?_⟩
      have e1 : compL [] [8] (gSlot 8) tYesM (eBin (mulP false) (eBin ixP (eVar 4) (eVar 8)) (eBin ixP (eVar 2) (eBin modP (eCall (one intP) (aCons (eBin (addP false) (eVar 5) (eBin (mulP false) (eVar 8) (eVar 6))) aNil)) (eVar 0)))) [some (.int (p : Int)), some (.int (d : Int)), some (.tup (F.map PV.int)), some (.int ((sm i fun x => sm p fun h => br p (d + 1) F x h) + sm j fun h => br p (d + 1) F i h)), some (.lst ((rowL (d + 1)).map PV.int)), some (.int (i : Int)), some (.int (j : Int)), e, none] (rngL 0 (d + 2)) [] h'' = .ok (((List.range (d + 2)).map fun k => (rowL (d + 1)).getD k 0 * F.getD ((i + k * j) % p) 0).map PV.int) h'' := by
        refine comp_rng (by simp) _ (fun k hk => ⟨_, rfl, rfl, ?_⟩) (by omega)
        have m1 : mulP false (.int (k : Int)) (.int (j : Int)) h'' = .ok (.int ((k : Int) * (j : Int))) h'' := mulP_r (by omega) (by omega)
        have b := tbl_get hF (Nat.mod_lt (i + k * j) hp0)
        have m2 : mulP false (.int ((rowL (d + 1)).getD k 0)) (.int (F.getD ((i + k * j) % p) 0)) h'' = .ok (.int ((rowL (d + 1)).getD k 0 * F.getD ((i + k * j) % p) 0)) h'' := mulP_r (by omega) (by omega)
        simp only [pmS, wipeL, m1, m2, modP_pos pI, mod_cast3, ixN_tup h'' (show (i + k * j) % p < F.length by rw [hF.1]; exact Nat.mod_lt _ hp0), ixN_lst h'' (show k < (rowL (d + 1)).length by rw [rowL_length]; exact hk)]
      have e2 : (sm (d + 2) fun k => (rowL (d + 1)).getD k 0 * F.getD ((i + k * j) % p) 0) = Ss p (d + 1) F i j := rfl
      simp only [pmS, hr2, e1, sumP_ints, sm_list, e2, modP_pos pI]
      have nn := Int.emod_nonneg (Ss p (d + 1) F i j) (show (p : Int) ≠ 0 by omega)
      by_cases q : Ss p (d + 1) F i j % (p : Int) = 0
      · have eb : br p (d + 1) F i j = 0 := if_pos q
        rw [if_neg (by omega)]
        simp only [pmU]
        exact ⟨trivial, some (.int (j : Int)), some (.int (Ss p (d + 1) F i j)), by simp [sm, eb]⟩
      · have eb : br p (d + 1) F i j = 1 := if_neg q
        rw [if_pos (by omega)]
        simp only [pmU]
        exact ⟨trivial, some (.int (j : Int)), some (.int (Ss p (d + 1) F i j)), by simp [sm, eb, Int.add_assoc]⟩
    · rintro σ h'' ⟨rfl, b, e, rfl⟩
      refine ⟨by simp, ?_⟩
      simp only [rng_len, pmU]
      exact ⟨trivial, _, _, _, rfl⟩
  · rintro σ h' ⟨rfl, a, b, e, rfl⟩
    refine ⟨by simp, ?_⟩
    simp only [pmS, rng_len]
    exact gc_same (by simp)
theorem Bk_nonneg (p n : Nat) (F : List Int) : 0 ≤ Bk p n F := sm_nonneg fun x _ => sm_nonneg fun h _ => by rcases br_bit p n F x h with q | q <;> omega
theorem Bk_le (p n : Nat) (F : List Int) : Bk p n F ≤ (p : Int) * ((p : Int) * 1) := by
  unfold Bk
  rw [← sm_const, ← sm_const]
  exact sm_le fun x _ => sm_le fun h _ => by rcases br_bit p n F x h with q | q <;> omega
def nearB (B d p : Int) : Bool := decide (B * (d + 1) * (d + 3) * (d + 3) < (d + 2) * p * p)
theorem near_ok {p d : Nat} (hp : primeB p = true) (hm : p ≤ 101) (hd : d ≤ 4) (hdp : d + 2 ≤ p) {F : List Int} (hF : Tbl p F) (H : VH) : m_is_near [.int (p : Int), .int (d : Int), .tup (F.map PV.int)] H = .ok (.bl (nearB (Bk p (d + 1) F) d p)) H := by
  unfold m_is_near
  rw [fnRun_go (σ := [some (.int (p : Int)), some (.int (d : Int)), some (.tup (F.map PV.int))]) _ _ _ _ rfl]
  have m1 : ∀ x : Int, mulP false (.int x) (.int ((d : Int) + 1)) H = .ok (.int (x * ((d : Int) + 1))) H := fun x => mulP_r (by omega) (by omega)
  have m3 : ∀ x : Int, mulP false (.int x) (.int ((d : Int) + 3)) H = .ok (.int (x * ((d : Int) + 3))) H := fun x => mulP_r (by omega) (by omega)
  have mp : ∀ x : Int, mulP false (.int x) (.int (p : Int)) H = .ok (.int (x * (p : Int))) H := fun x => mulP_r (by omega) (by omega)
  simp only [pmS, broken_ok hp hm hd hdp hF, m1, m3, mp]
  exact gc_same (by simp)
theorem dif_comp {p : Nat} (hm : p ≤ 101) {F C : List Int} {σ : LS} {ws : List Nat} {gm : GM} {mt : TM} {me : EM} {h : VH} (step : ∀ x : Nat, x < p → ∃ σ2, gm (.int (x : Int)) (wipeL σ ws) h = .ok σ2 h ∧ mt σ2 h = .ok (!decide (F.getD x 0 = C.getD x 0)) h ∧ me σ2 h = .ok (.int (x : Int)) h) :
    compL [] ws gm mt me σ (rngL 0 p) [] h = .ok (((List.range p).filter fun x => !decide (F.getD x 0 = C.getD x 0)).map fun x : Nat => PV.int (x : Int)) h :=
  comp_rngF (by simp) _ _ (fun j hj => by obtain ⟨s, a, b, c⟩ := step j hj; exact ⟨s, a, b, fun _ => c⟩) (by omega)
theorem dif_count (p : Nat) (F C : List Int) : (((List.range p).filter fun x => !decide (F.getD x 0 = C.getD x 0)).length : Int) = sm p (dif F C) := by
  rw [sm_count]
  refine sm_congr fun x _ => ?_
  unfold dif
  by_cases q : F.getD x 0 = C.getD x 0
  · rw [if_pos q]; simp only [q, decide_true, Bool.not_true, Bool.false_eq_true, if_false]
  · rw [if_neg q]; simp only [q, decide_false, Bool.not_false, if_true]
theorem dif_le (p : Nat) (F C : List Int) : sm p (dif F C) ≤ (p : Int) * 1 := by
  rw [← sm_const]; exact sm_le fun x _ => by rcases dif_bit F C x with q | q <;> omega
theorem dif_nonneg (p : Nat) (F C : List Int) : 0 ≤ sm p (dif F C) := sm_nonneg fun x _ => by rcases dif_bit F C x with q | q <;> omega
theorem pol_gone {p d : Nat} (hp : 0 < p) {c : List Int} (hl : c.length = d + 1) : isZ (stpN p (d + 1) (tab' p (hor c))) := by
  have hne : c ≠ [] := by intro z; rw [z] at hl; cases hl
  have e := List.dropLast_concat_getLast hne
  have hl2 : c.dropLast.length = d := by rw [List.length_dropLast]; omega
  have q := hor_pol c.dropLast (c.getLast hne)
  rw [e, hl2] at q
  rw [stpN_tab hp (hor_per p c)]
  intro x hx
  obtain ⟨i, _, rfl⟩ := List.mem_map.mp hx
  show (DN d (hor c) ((i : Int) + 1) - DN d (hor c) (i : Int)) % (p : Int) = 0
  rw [Pol.last q, Pol.last q, Int.sub_self]; rfl
theorem deg_iff {p d n : Nat} (hp : 2 ≤ p) {F : List Int} (hF : Tbl p F) (z : isZ (stpN p n F)) (zm : ∀ j, j < n → ¬ isZ (stpN p j F)) : decide ((n : Int) - 1 ≤ (d : Int)) = decide (Bk p (d + 1) F = 0) := by
  have a : (n : Int) - 1 ≤ (d : Int) ↔ Bk p (d + 1) F = 0 := by
    rw [Bk_zero hp hF]
    constructor
    · intro h
      have := isZ_stpN (by omega) z (d + 1 - n)
      rwa [show n + (d + 1 - n) = d + 1 by omega] at this
    · intro h
      refine Int.not_lt.mp fun lt => zm (d + 1) (by omega) h
  simp only [a]
def vt (p n : Nat) (F : List Int) (x h : Nat) : Int := (F.getD x 0 - Ss p n F x h) % (p : Int)
theorem vt_pos {p : Nat} (hp : 0 < p) (n : Nat) (F : List Int) (x h : Nat) : 0 ≤ vt p n F x h ∧ vt p n F x h < (p : Int) := ⟨Int.emod_nonneg _ (by omega), Int.emod_lt_of_pos _ (by omega)⟩
def vh (p n : Nat) (F : List Int) (x : Nat) (v : Nat) (h : Nat) : Int := if vt p n F x h = (v : Int) then 1 else 0
def cL (p n : Nat) (F : List Int) (x k : Nat) : List Int := (List.range p).map fun v => sm k (vh p n F x v)
theorem cL_len (p n : Nat) (F : List Int) (x k : Nat) : (cL p n F x k).length = p := by simp [cL]
theorem cL_get {p n : Nat} {F : List Int} {x k v : Nat} (hv : v < p) : (cL p n F x k).getD v 0 = sm k (vh p n F x v) := by simp [cL, List.getD_eq_getElem?_getD, hv]
theorem cL_set {p : Nat} (hp : 0 < p) (n : Nat) (F : List Int) (x k : Nat) : (cL p n F x k).set (vt p n F x k).toNat ((cL p n F x k).getD (vt p n F x k).toNat 0 + 1) = cL p n F x (k + 1) := by
  obtain ⟨b1, b2⟩ := vt_pos hp n F x k
  apply List.ext_getElem
  · simp [cL]
  · intro v h1 h2
    have hv : v < p := by simpa [cL] using h2
    rw [List.getElem_set]
    have e1 : (cL p n F x (k + 1))[v] = sm k (vh p n F x v) + vh p n F x v k := by simp [cL, sm]
    rw [e1]
    split
    · rename_i q
      have : vh p n F x v k = 1 := if_pos (by omega)
      rw [this, ← q, cL_get (by omega)]
    · rename_i q
      have : vh p n F x v k = 0 := if_neg (by omega)
      rw [this]; simp [cL]
theorem cL_sum {p : Nat} (hp : 0 < p) (n : Nat) (F : List Int) (x : Nat) : (cL p n F x p).sum = (p : Int) := by
  unfold cL
  rw [sm_list, sm_swap, sm_congr (g := fun _ => 1) fun h _ => ?_, sm_const, Int.mul_one]
  obtain ⟨b1, b2⟩ := vt_pos hp n F x h
  rw [sm_one (f := fun i => vh p n F x i h) (a := (vt p n F x h).toNat) (by omega) fun v hv hne => (show vh p n F x v h = 0 from if_neg (by omega))]
  exact if_pos (by omega)
theorem vt_same {p n : Nat} {F : List Int} {x h1 h2 : Nat} (e : Ss p n F x h1 % (p : Int) = Ss p n F x h2 % (p : Int)) : vt p n F x h1 = vt p n F x h2 := by
  unfold vt; rw [Int.sub_emod, e, ← Int.sub_emod]
theorem cL_le {p n : Nat} (hp : primeB p = true) (hn : n < p) (F : List Int) (x v : Nat) : sm p (vh p n F x v) * ((p : Int) - sm p (vh p n F x v)) ≤ n * Bk p n F :=
  votes_le hp hn x _ (fun h => by unfold vh; split <;> simp) fun h1 h2 e => by unfold vh; rw [vt_same e]
theorem cL_zero (p n : Nat) (F : List Int) (x : Nat) : cL p n F x 0 = (List.range p).map fun _ => 0 := by unfold cL; rfl
theorem zero_comp {p : Nat} (hm : p ≤ 101) {σ : LS} {ws : List Nat} {s : Nat} {n : Nat} {F : List Int} {x : Nat} {h : VH} (e : ∀ j : Nat, ∃ σ2, gSlot s (.int (j : Int)) (wipeL σ ws) h = .ok σ2 h) : compL [] ws (gSlot s) tYesM (eC (.int 0)) σ (rngL 0 p) [] h = .ok ((cL p n F x 0).map PV.int) h := by
  rw [cL_zero]
  exact comp_rng (by simp) _ (fun j hj => by obtain ⟨σ2, q⟩ := e j; exact ⟨σ2, q, rfl, rfl⟩) (by omega)
theorem is_below_nat {x p : Nat} (hx : x < p) (h : VH) : m_is_below [.int (x : Int), .int (p : Int)] h = .ok (.bl true) h := by rw [is_below_int, decide_eq_true (by omega)]
theorem votes_ok {p d : Nat} (hp : primeB p = true) (hm : p ≤ 101) (hd : d ≤ 4) (hdp : d + 2 ≤ p) {F : List Int} (hF : Tbl p F) {x : Nat} (hx : x < p) (H : VH) : m_step_votes [.int (p : Int), .int (d : Int), .tup (F.map PV.int), .int (x : Int)] H = .ok (.tup ((cL p (d + 1) F x p).map PV.int)) H := by
  have p0 : 0 < p := by omega
  have pI : (0 : Int) < (p : Int) := by omega
  unfold m_step_votes
  rw [fnRun_go (σ := [some (.int (p : Int)), some (.int (d : Int)), some (.tup (F.map PV.int)), some (.int (x : Int)), none, none, none, none]) _ _ _ _ rfl]
  have hr := fun h => srcRngN (n := p) h (by omega)
  have z := fun σ h e => zero_comp (ws := [6]) (s := 6) hm (n := d + 1) (F := F) (x := x) (σ := σ) (h := h) e
  have e1 : compL [] [6] (gSlot 6) tYesM (eC (.int 0)) [some (.int (p : Int)), some (.int (d : Int)), some (.tup (F.map PV.int)), some (.int (x : Int)), some (.lst ((rowL (d + 1)).map PV.int)), none, none, none] (rngL 0 p) [] H = .ok ((cL p (d + 1) F x 0).map PV.int) H := z _ _ fun j => ⟨_, rfl⟩
  simp only [pmS, check_degree_ok hp hm hd hdp hF, is_below_nat hx, fac_ok hd, hr, e1, Bool.not_true, Bool.false_eq_true, if_false]
  refine for_go (R := fun r => fin H (r.bind (sRet (eCall (one tupleP) (aCons (eVar 5) aNil)))) = .ok (.tup ((cL p (d + 1) F x p).map PV.int)) H) (fun i σ h' => h' = H ++ [.lst ((cL p (d + 1) F x i).map PV.int)] ∧ ∃ a, σ = [some (.int (p : Int)), some (.int (d : Int)), some (.tup (F.map PV.int)), some (.int (x : Int)), some (.lst ((rowL (d + 1)).map PV.int)), some (.ref H.length), none, a]) ⟨rfl, none, rfl⟩ ?_ ?_
  · rintro i y σ h' hy ⟨rfl, a, rfl⟩
    obtain ⟨hi, rfl⟩ := rng_get hy
    refine ⟨by simp, _, _, rfl, ?_⟩
    obtain ⟨v1, v2⟩ := vt_pos p0 (d + 1) F x i
    have g1 : ixP (.tup (F.map PV.int)) (.int (x : Int)) (H ++ [.lst ((cL p (d + 1) F x i).map PV.int)]) = _ := ixN_tup _ (by rw [hF.1]; exact hx)
    have g2 := step_sum_ok p0 hm hF (n := d + 1) (by omega) x i hi (H ++ [.lst ((cL p (d + 1) F x i).map PV.int)])
    have ev : (F.getD x 0 - Ss p (d + 1) F x i % (p : Int)) % (p : Int) = vt p (d + 1) F x i := by
      unfold vt; rw [Int.sub_emod, Int.emod_emod_of_dvd _ (Int.dvd_refl _), ← Int.sub_emod]
    have el : (H ++ [.lst ((cL p (d + 1) F x i).map PV.int)])[H.length]? = some (.lst ((cL p (d + 1) F x i).map PV.int)) := by simp
    have hv : (vt p (d + 1) F x i).toNat < (cL p (d + 1) F x i).length := by rw [cL_len]; omega
    have g3 : getC (.ref H.length) (.int (vt p (d + 1) F x i)) (H ++ [.lst ((cL p (d + 1) F x i).map PV.int)]) = .ok (.int ((cL p (d + 1) F x i).getD (vt p (d + 1) F x i).toNat 0)) (H ++ [.lst ((cL p (d + 1) F x i).map PV.int)]) := getC_ok el v1 (by simp [hv])
    have g4 : setP (.ref H.length) (.int (vt p (d + 1) F x i)) (.int ((cL p (d + 1) F x i).getD (vt p (d + 1) F x i).toNat 0 + 1)) (H ++ [.lst ((cL p (d + 1) F x i).map PV.int)]) = .ok () (H ++ [.lst ((cL p (d + 1) F x (i + 1)).map PV.int)]) := by
      rw [setP_ok el (ixN_pos v1 (by rw [List.length_map]; omega)), ← cL_set p0]
      simp [List.map_set]
    simp only [pmS, pmT, g1, g2, modP_pos pI, ev, g3, g4, pmU]
    exact ⟨trivial, some (.int (i : Int)), rfl⟩
  · rintro σ h' ⟨rfl, a, rfl⟩
    refine ⟨by simp, ?_⟩
    have tp : tupleP (.ref H.length) (H ++ [.lst ((cL p (d + 1) F x p).map PV.int)]) = .ok (.tup ((cL p (d + 1) F x p).map PV.int)) (H ++ [.lst ((cL p (d + 1) F x p).map PV.int)]) := tupleP_ref (by simp)
    simp only [pmS, rng_len, tp]
    exact gc_app (by simp)
theorem vt_law {p n : Nat} {F : List Int} {x h : Nat} (hx : x < p) : (-(sm n fun k => (rowL n).getD (k + 1) 0 * F.getD ((x + (k + 1) * h) % p) 0)) % (p : Int) = vt p n F x h := by
  unfold vt Ss
  rw [sm_split, row0, Nat.zero_mul, Nat.add_zero, Nat.mod_eq_of_lt hx]
  congr 1; omega
theorem law_votes_ok {p d : Nat} (p0 : 0 < p) (hm : p ≤ 101) (hd : d ≤ 4) {F : List Int} (hF : Tbl p F) {x : Nat} (hx : x < p) (H : VH) : m__law_votes [.int (p : Int), .int (d : Int), .tup (F.map PV.int), .int (x : Int)] H = .ok (.lst ((cL p (d + 1) F x p).map PV.int)) H := by
  have pI : (0 : Int) < (p : Int) := by omega
  unfold m__law_votes
  rw [fnRun_go (σ := [some (.int (p : Int)), some (.int (d : Int)), some (.tup (F.map PV.int)), some (.int (x : Int)), none, none, none, none, none]) _ _ _ _ rfl]
  have hr := fun h => srcRngN (n := p) h (by omega)
  have hr2 : ∀ h, srcRng [.int 1, .int ((d : Int) + 2)] h = .ok ⟨rngL 1 (d + 1), []⟩ h := fun h => by rw [srcRng2 (by omega), show ((d : Int) + 2 - 1).toNat = d + 1 by omega]
  have e1 : compL [] [6] (gSlot 6) tYesM (eC (.int 0)) [some (.int (p : Int)), some (.int (d : Int)), some (.tup (F.map PV.int)), some (.int (x : Int)), some (.lst ((rowL (d + 1)).map PV.int)), none, none, none, none] (rngL 0 p) [] H = .ok ((cL p (d + 1) F x 0).map PV.int) H := zero_comp hm fun j => ⟨_, rfl⟩
  simp only [pmS, steps_ok hd, hr, e1]
  refine for_go (R := fun r => fin H (r.bind (sRet (eFrz (eVar 5)))) = .ok (.lst ((cL p (d + 1) F x p).map PV.int)) H) (fun i σ h' => h' = H ++ [.lst ((cL p (d + 1) F x i).map PV.int)] ∧ ∃ a b, σ = [some (.int (p : Int)), some (.int (d : Int)), some (.tup (F.map PV.int)), some (.int (x : Int)), some (.lst ((rowL (d + 1)).map PV.int)), some (.ref H.length), a, b, none]) ⟨rfl, none, none, rfl⟩ ?_ ?_
  · rintro i y σ h' hy ⟨rfl, a, b, rfl⟩
    obtain ⟨hi, rfl⟩ := rng_get hy
    refine ⟨by simp, _, _, rfl, ?_⟩
    have v1 := (vt_pos p0 (d + 1) F x i).1
    have v2 := (vt_pos p0 (d + 1) F x i).2
    have el : (H ++ [.lst ((cL p (d + 1) F x i).map PV.int)])[H.length]? = some (.lst ((cL p (d + 1) F x i).map PV.int)) := by simp
    have hv : (vt p (d + 1) F x i).toNat < (cL p (d + 1) F x i).length := by rw [cL_len]; omega
    have e2 : compL [] [8] (gSlot 8) tYesM (eBin (mulP false) (eBin ixP (eVar 4) (eVar 8)) (eBin ixP (eVar 2) (eBin modP (eCall (one intP) (aCons (eBin (addP false) (eVar 3) (eBin (mulP false) (eVar 8) (eVar 7))) aNil)) (eVar 0)))) [some (.int (p : Int)), some (.int (d : Int)), some (.tup (F.map PV.int)), some (.int (x : Int)), some (.lst ((rowL (d + 1)).map PV.int)), some (.ref H.length), a, some (.int (i : Int)), none] (rngL 1 (d + 1)) [] (H ++ [.lst ((cL p (d + 1) F x i).map PV.int)]) = .ok (((List.range (d + 1)).map fun k => (rowL (d + 1)).getD (k + 1) 0 * F.getD ((x + (k + 1) * i) % p) 0).map PV.int) (H ++ [.lst ((cL p (d + 1) F x i).map PV.int)]) := by
      refine comp_ints (by simp) (by simp [rngL]) _ (fun k y hk => ?_) (by omega)
      obtain ⟨hk1, rfl⟩ := rngL_get hk
      have e3 : (1 : Int) + (k : Int) = ((k + 1 : Nat) : Int) := by omega
      rw [e3]
      refine ⟨_, rfl, rfl, ?_⟩
      have m1 : ∀ h, mulP false (.int ((k + 1 : Nat) : Int)) (.int (i : Int)) h = .ok (.int (((k + 1 : Nat) : Int) * (i : Int))) h := fun h => mulP_r (by omega) (by omega)
      have b := tbl_get hF (Nat.mod_lt (x + (k + 1) * i) p0)
      have m2 : ∀ h, mulP false (.int ((rowL (d + 1)).getD (k + 1) 0)) (.int (F.getD ((x + (k + 1) * i) % p) 0)) h = .ok (.int ((rowL (d + 1)).getD (k + 1) 0 * F.getD ((x + (k + 1) * i) % p) 0)) h := fun h => mulP_r (by omega) (by omega)
      have g1 : ∀ h, ixP (.tup (F.map PV.int)) (.int (((x + (k + 1) * i) % p : Nat) : Int)) h = _ := fun h => ixN_tup h (by rw [hF.1]; exact Nat.mod_lt _ p0)
      have g2 : ∀ h, ixP (.lst ((rowL (d + 1)).map PV.int)) (.int ((k + 1 : Nat) : Int)) h = _ := fun h => ixN_lst h (by rw [rowL_length]; omega)
      simp only [pmS, wipeL, g2, m1, modP_pos pI, mod_cast3, g1, m2]
    have g3 : ixP (.ref H.length) (.int (vt p (d + 1) F x i)) (H ++ [.lst ((cL p (d + 1) F x i).map PV.int)]) = .ok (.int ((cL p (d + 1) F x i).getD (vt p (d + 1) F x i).toNat 0)) (H ++ [.lst ((cL p (d + 1) F x i).map PV.int)]) := ixP_ref el v1 (by simp [hv])
    have g4 : setP (.ref H.length) (.int (vt p (d + 1) F x i)) (.int ((cL p (d + 1) F x i).getD (vt p (d + 1) F x i).toNat 0 + 1)) (H ++ [.lst ((cL p (d + 1) F x i).map PV.int)]) = .ok () (H ++ [.lst ((cL p (d + 1) F x (i + 1)).map PV.int)]) := by
      rw [setP_ok el (ixN_pos v1 (by rw [List.length_map]; omega)), ← cL_set p0]
      simp [List.map_set]
    simp only [pmS, pmT, hr2, e2, sumP_ints, sm_list, modP_pos pI, vt_law hx, g3, g4, pmU]
    exact ⟨trivial, _, _, rfl⟩
  · rintro σ h' ⟨rfl, a, b, rfl⟩
    refine ⟨by simp, ?_⟩
    simp only [pmS, rng_len, frzP_last]
    exact gc_app (by simp)
end Pm
namespace Pm
open PySem PySem.Spec L2 PyProof.Rows
/-! ### curves through values -/
section
variable {p : Nat}
theorem srcRev_ref {i : Nat} {xs : List PV} {h : VH} (e : h[i]? = some (.lst xs)) : srcRev (.ref i) h = .ok ⟨xs.reverse, [(i, xs)]⟩ h := by simp [srcRev, lstOf_ref e, ckOf_ref e]
theorem ckO1 {i : Nat} {xs : List PV} {h : VH} (e : h[i]? = some (.lst xs)) : ckOk [(i, xs)] h := fun q hq => by rw [List.mem_singleton.mp hq]; exact e
/-- Horner's sum, whatever holds the numbers -/
theorem value_of_gen (hp : 0 < p) (hm : p ≤ 101) (c : List Int) (x : Nat) (hx : x < p) {v : PV} {ck : List (Nat × List PV)} {h : VH} (sr : srcRev v h = .ok ⟨(c.map PV.int).reverse, ck⟩ h) (co : ckOk ck h) : m_value_of [.int (p : Int), v, .int (x : Int)] h = .ok (.int (hor c x % (p : Int))) h := by
  unfold m_value_of
  rw [fnRun_go (σ := [some (.int (p : Int)), some v, some (.int (x : Int)), none, none]) _ _ _ _ rfl]
  simp only [pmS, pmT, pmU, pmV, if_true, if_false, reduceCtorEq, Bool.false_eq_true, decide_true, decide_false, sr]
  have e0 : (0 : Int) < (p : Int) := by omega
  refine for_go (R := fun r => fin h (r.bind (sRet (eVar 3))) = .ok (.int (hor c x % (p : Int))) h) (fun i σ h' => h' = h ∧ i ≤ c.length ∧ ∃ a, σ = [some (.int (p : Int)), some v, some (.int (x : Int)), some (.int (hor (c.drop (c.length - i)) x % (p : Int))), a])
    ⟨rfl, Nat.zero_le _, none, by simp [hor]⟩ ?_ ?_
  · rintro i y σ h' hy ⟨rfl, hi, a, rfl⟩
    have hy2 := rev_at hy
    rw [List.length_map, List.getElem?_map] at hy2
    have hi2 : i < c.length := by
      have := (List.getElem?_eq_some_iff.mp hy).1
      simpa using this
    have hj : c.length - 1 - i < c.length := by omega
    rw [List.getElem?_eq_getElem hj] at hy2
    cases hy2
    refine ⟨co, _, _, rfl, ?_⟩
    have b1 := Int.emod_nonneg (hor (c.drop (c.length - i)) x) (show (p : Int) ≠ 0 by omega)
    have b2 := Int.emod_lt_of_pos (hor (c.drop (c.length - i)) x) e0
    have ml : ∀ h, mulP false (.int (hor (c.drop (c.length - i)) x % (p : Int))) (.int (x : Int)) h = .ok (.int (hor (c.drop (c.length - i)) x % (p : Int) * (x : Int))) h := fun h => mulP_l (by omega) (by omega)
    simp only [pmS, pmT, pmU, pmV, if_true, if_false, reduceCtorEq, Bool.false_eq_true, decide_true, decide_false, ml, modP_pos e0, Turn'_nx]
    refine ⟨trivial, by omega, some (.int c[c.length - 1 - i]), ?_⟩
    have hd : c.drop (c.length - (i + 1)) = c[c.length - 1 - i] :: c.drop (c.length - i) := by
      have e1 : c.length - (i + 1) = c.length - 1 - i := by omega
      have e2 : c.length - i = c.length - 1 - i + 1 := by omega
      rw [e1, e2]; exact List.drop_eq_getElem_cons hj
    rw [hd]
    have : (hor (c.drop (c.length - i)) x % (p : Int) * (x : Int) + c[c.length - 1 - i]) % (p : Int) = hor (c[c.length - 1 - i] :: c.drop (c.length - i)) x % (p : Int) := by
      show _ = (c[c.length - 1 - i] + (x : Int) * hor (c.drop (c.length - i)) x) % (p : Int)
      rw [Int.add_comm]
      refine emod_add_mul_eq _ rfl _ ?_
      rw [Int.mul_comm (x : Int), Int.mul_emod, Int.emod_emod_of_dvd _ (Int.dvd_refl _), ← Int.mul_emod]
    rw [this]
  · rintro σ h' ⟨rfl, hi, a, rfl⟩
    refine ⟨co, ?_⟩
    simp only [pmS, pmT, pmU, pmV, if_true, if_false, reduceCtorEq, Bool.false_eq_true, decide_true, decide_false, List.length_reverse, List.length_map, Nat.sub_self, List.drop_zero]
    exact gc_same (by simp)
theorem value_of_tup (hp : 0 < p) (hm : p ≤ 101) (c : List Int) (x : Nat) (hx : x < p) (h : VH) : m_value_of [.int (p : Int), .tup (c.map PV.int), .int (x : Int)] h = .ok (.int (hor c x % (p : Int))) h := value_of_gen hp hm c x hx (srcRev_tup _ _) (by simp)
theorem value_of_lst (hp : 0 < p) (hm : p ≤ 101) (c : List Int) (x : Nat) (hx : x < p) (h : VH) : m_value_of [.int (p : Int), .lst (c.map PV.int), .int (x : Int)] h = .ok (.int (hor c x % (p : Int))) h := value_of_gen hp hm c x hx (srcRev_lst _ _) (by simp)
theorem value_of_ref (hp : 0 < p) (hm : p ≤ 101) (c : List Int) (x : Nat) (hx : x < p) {i : Nat} {h : VH} (e : h[i]? = some (.lst (c.map PV.int))) : m_value_of [.int (p : Int), .ref i, .int (x : Int)] h = .ok (.int (hor c x % (p : Int))) h := value_of_gen hp hm c x hx (srcRev_ref e) (ckO1 e)
/-- what inverse_of answers -/
def InvOk (p : Nat) (a : Int) (r : Nat) : Prop := r < p ∧ ((1 ≤ r ∧ a * (r : Int) % (p : Int) = 1) ∨ (r = 0 ∧ ∀ i : Nat, 1 ≤ i → i < p → ¬ a * (i : Int) % (p : Int) = 1))
theorem rng1_get {N i : Nat} {v : PV} (h : (rngL 1 N)[i]? = some v) : i < N ∧ v = .int ((i + 1 : Nat) : Int) := by
  have hi : i < N := by have := (List.getElem?_eq_some_iff.mp h).1; simpa [rngL] using this
  simp [rngL, hi] at h
  exact ⟨hi, by rw [← h]; push_cast; rw [Int.add_comm]⟩
theorem inverse_of_ok (hp : 2 ≤ p) (hm : p ≤ 101) {a : Int} (ha : 0 ≤ a ∧ a < (p : Int)) : ∃ r, InvOk p a r ∧ ∀ h, m_inverse_of [.int (p : Int), .int a] h = .ok (.int (r : Int)) h := by
  have e0 : (0 : Int) < (p : Int) := by omega
  have em : (∃ i : Nat, i < p - 1 ∧ a * ((i + 1 : Nat) : Int) % (p : Int) = 1) ∨ ¬ ∃ i : Nat, i < p - 1 ∧ a * ((i + 1 : Nat) : Int) % (p : Int) = 1 := Classical.em _
  have sr : ∀ h, srcRng [.int 1, .int (p : Int)] h = .ok ⟨rngL 1 (p - 1), []⟩ h := fun h => by
    have e1 : ((p : Int) - 1).toNat = p - 1 := by omega
    rw [srcRng2 (by omega), e1]
  have ml : ∀ (i : Nat) h, mulP false (.int a) (.int (i : Int)) h = .ok (.int (a * (i : Int))) h := fun i h => mulP_l (by omega) (by omega)
  rcases em with ⟨k0, l0, h0⟩ | no
  · obtain ⟨k, kk, hk, lk⟩ := least (P := fun i : Nat => a * ((i + 1 : Nat) : Int) % (p : Int) = 1) h0
    refine ⟨k + 1, ⟨by omega, .inl ⟨by omega, hk⟩⟩, fun h => ?_⟩
    unfold m_inverse_of
    rw [fnRun_go (σ := [some (.int (p : Int)), some (.int a), none]) _ _ _ _ rfl]
    simp only [pmS, pmT, pmU, pmV, if_true, if_false, reduceCtorEq, Bool.false_eq_true, decide_true, decide_false, sr]
    refine for_bind (fun i σ h' => h' = h ∧ i ≤ k ∧ ∃ b, σ = [some (.int (p : Int)), some (.int a), b]) ⟨rfl, Nat.zero_le _, none, rfl⟩ ?_ ?_
    · rintro i v σ h' hq ⟨rfl, ik, b, rfl⟩
      obtain ⟨hi, rfl⟩ := rng1_get hq
      have em : i = k ∨ ¬ i = k := Classical.em _
      refine ⟨by simp, _, _, rfl, ?_⟩
      refine em.elim ?c1 ?c2
      · intro q
        have c : (a * ((i + 1 : Nat) : Int) % (p : Int) = 1) = True := eq_true (by rw [q]; exact hk)
        simp only [pmS, pmT, pmU, pmV, if_true, if_false, reduceCtorEq, Bool.false_eq_true, decide_true, decide_false, ml, modP_pos e0, c]
        rw [q]
        exact gc_same (by simp)
      · intro q
        have c : (a * ((i + 1 : Nat) : Int) % (p : Int) = 1) = False := eq_false (lk i (by omega))
        simp only [pmS, pmT, pmU, pmV, if_true, if_false, reduceCtorEq, Bool.false_eq_true, decide_true, decide_false, ml, modP_pos e0, c, Turn'_nx]
        exact ⟨trivial, by omega, _, rfl⟩
    · rintro σ h' ⟨rfl, ik, b, rfl⟩
      have : (rngL 1 (p - 1)).length = p - 1 := by simp [rngL]
      omega
  · refine ⟨0, ⟨by omega, .inr ⟨rfl, fun i h1 h2 z => no ⟨i - 1, by omega, by rw [show i - 1 + 1 = i by omega]; exact z⟩⟩⟩, fun h => ?_⟩
    unfold m_inverse_of
    rw [fnRun_go (σ := [some (.int (p : Int)), some (.int a), none]) _ _ _ _ rfl]
    simp only [pmS, pmT, pmU, pmV, if_true, if_false, reduceCtorEq, Bool.false_eq_true, decide_true, decide_false, sr]
    refine for_bind (fun i σ h' => h' = h ∧ ∃ b, σ = [some (.int (p : Int)), some (.int a), b]) ⟨rfl, none, rfl⟩ ?_ ?_
    · rintro i v σ h' hq ⟨rfl, b, rfl⟩
      obtain ⟨hi, rfl⟩ := rng1_get hq
      have c : (a * ((i + 1 : Nat) : Int) % (p : Int) = 1) = False := eq_false fun z => no ⟨i, hi, z⟩
      refine ⟨by simp, _, _, rfl, ?_⟩
      simp only [pmS, pmT, pmU, pmV, if_true, if_false, reduceCtorEq, Bool.false_eq_true, decide_true, decide_false, ml, modP_pos e0, c, Turn'_nx]
      exact ⟨trivial, _, rfl⟩
    · rintro σ h' ⟨rfl, b, rfl⟩
      refine ⟨by simp, ?_⟩
      simp only [pmS, pmT, pmU, pmV, if_true, if_false, reduceCtorEq, Bool.false_eq_true, decide_true, decide_false]
      exact gc_same (by simp)
/-- one function that names all inverses -/
theorem inverses_ex (hp : 2 ≤ p) (hm : p ≤ 101) : ∃ inv : Int → Nat, ∀ a : Int, 0 ≤ a → a < (p : Int) → InvOk p a (inv a) ∧ ∀ h, m_inverse_of [.int (p : Int), .int a] h = .ok (.int ((inv a : Nat) : Int)) h := by
  have : ∀ a : Int, ∃ r : Nat, 0 ≤ a → a < (p : Int) → InvOk p a r ∧ ∀ h, m_inverse_of [.int (p : Int), .int a] h = .ok (.int (r : Int)) h := fun a => by
    by_cases q : 0 ≤ a ∧ a < (p : Int)
    · obtain ⟨r, x, y⟩ := inverse_of_ok hp hm q
      exact ⟨r, fun _ _ => ⟨x, y⟩⟩
    · exact ⟨0, fun z1 z2 => absurd ⟨z1, z2⟩ q⟩
  exact ⟨fun a => Classical.choose (this a), fun a h1 h2 => Classical.choose_spec (this a) h1 h2⟩
/-! the product with x - a -/
def tlA (p : Nat) (c : List Int) (x k i : Nat) : Int := if i < k then ((0 :: c).getD i 0 - (x : Int) * c.getD i 0) % (p : Int) else (0 :: c).getD i 0
def tlC (p : Nat) (c : List Int) (x k : Nat) : List Int := (List.range (c.length + 1)).map (tlA p c x k)
def tlL (p : Nat) (c : List Int) (x : Nat) : List Int := tlC p c x c.length
theorem tlC_len {c : List Int} {x k : Nat} : (tlC p c x k).length = c.length + 1 := by simp [tlC]
theorem tlC_at {c : List Int} {x k i : Nat} (hi : i < c.length + 1) : (tlC p c x k)[i]? = some (tlA p c x k i) := by simp [tlC, hi]
theorem tlC_set {c : List Int} {x k : Nat} (hk : k < c.length) : (tlC p c x k).set k (tlA p c x (k + 1) k) = tlC p c x (k + 1) := by
  refine List.ext_getElem? fun i => ?_
  rw [List.getElem?_set]
  by_cases q : k = i
  · subst q
    rw [if_pos rfl, if_pos (by rw [tlC_len]; omega), tlC_at (by omega)]
  · rw [if_neg q]
    by_cases w : i < c.length + 1
    · rw [tlC_at w, tlC_at w]
      unfold tlA
      by_cases z : i < k
      · rw [if_pos z, if_pos (by omega)]
      · rw [if_neg z, if_neg (by omega)]
    · rw [List.getElem?_eq_none (by rw [tlC_len]; omega), List.getElem?_eq_none (by rw [tlC_len]; omega)]
theorem tlC_zero (c : List Int) (x : Nat) : tlC p c x 0 = 0 :: c := by
  refine List.ext_getElem? fun i => ?_
  by_cases w : i < c.length + 1
  · rw [tlC_at w]
    unfold tlA
    rw [if_neg (by omega)]
    rw [List.getD_eq_getElem?_getD, List.getElem?_eq_getElem (by simpa using w)]; rfl
  · rw [List.getElem?_eq_none (by rw [tlC_len]; omega), List.getElem?_eq_none (by simp; omega)]
theorem tlL_mem (hp : 0 < p) {c : List Int} (hc : ∀ y ∈ c, 0 ≤ y ∧ y < (p : Int)) (x : Nat) : ∀ y ∈ tlL p c x, 0 ≤ y ∧ y < (p : Int) := fun y hy => by
  obtain ⟨i, hi, rfl⟩ := List.mem_map.mp hy
  have hi := List.mem_range.mp hi
  unfold tlA
  split
  · exact ⟨Int.emod_nonneg _ (by omega), Int.emod_lt_of_pos _ (by omega)⟩
  · rw [List.getD_eq_getElem?_getD, List.getElem?_eq_getElem (by simpa using hi)]
    have := List.getElem_mem (l := 0 :: c) (n := i) (by simpa using hi)
    rcases List.mem_cons.mp this with z | z
    · show 0 ≤ (0 :: c)[i] ∧ (0 :: c)[i] < (p : Int)
      rw [z]; omega
    · exact hc _ z
theorem times_less_ok (hp : 0 < p) (hm : p ≤ 101) {c : List Int} (hc : ∀ y ∈ c, 0 ≤ y ∧ y < (p : Int)) (hl : c.length ≤ 1000) {x : Nat} (hx : x < p) (h : VH) : m_times_less [.int (p : Int), .lst (c.map PV.int), .int (x : Int)] h = .ok (.lst ((tlL p c x).map PV.int)) h := by
  have e0 : (0 : Int) < (p : Int) := by omega
  unfold m_times_less
  rw [fnRun_go (σ := [some (.int (p : Int)), some (.lst (c.map PV.int)), some (.int (x : Int)), none, none, none]) _ _ _ _ rfl]
  have ad : addP true (.lst [.int 0]) (.lst (c.map PV.int)) h = .ok (.ref h.length) (h ++ [.lst ((tlC p c x 0).map PV.int)]) := by
    rw [addP_lst, if_pos (by simp; omega), tlC_zero]; rfl
  simp only [pmS, pmT, pmU, pmV, if_true, if_false, reduceCtorEq, Bool.false_eq_true, decide_true, decide_false, mkL_f, ad]
  refine for_bind (fun i σ h' => h' = h ++ [.lst ((tlC p c x i).map PV.int)] ∧ ∃ a4 a5, σ = [some (.int (p : Int)), some (.lst (c.map PV.int)), some (.int (x : Int)), some (.ref h.length), a4, a5]) ⟨rfl, none, none, rfl⟩ ?_ ?_
  · rintro i v σ h' hq ⟨rfl, a4, a5, rfl⟩
    obtain ⟨y, h1, rfl⟩ := enumL_get hq
    obtain ⟨hi, rfl⟩ := ints_get h1
    have two : ∀ a b : PV, (([a, b] : List PV).length = 2) = True := fun _ _ => eq_true rfl
    refine ⟨by simp, _, _, by simp only [pmS, pmT, pmU, pmV, if_true, if_false, reduceCtorEq, Bool.false_eq_true, decide_true, decide_false, two]; rfl, ?_⟩
    have g1 : ixP (.ref h.length) (.int (i : Int)) (h ++ [.lst ((tlC p c x i).map PV.int)]) = .ok (.int ((0 :: c).getD i 0)) (h ++ [.lst ((tlC p c x i).map PV.int)]) := ixP_ref (at_end _ _) (by omega) (by
      rw [List.getElem?_map, show ((i : Int)).toNat = i by omega, tlC_at (by omega)]
      unfold tlA
      rw [if_neg (by omega)]; rfl)
    have b1 := hc _ (show c.getD i 0 ∈ c by rw [List.getD_eq_getElem?_getD, List.getElem?_eq_getElem hi]; exact List.getElem_mem hi)
    have ml : ∀ h, mulP false (.int (x : Int)) (.int (c.getD i 0)) h = .ok (.int ((x : Int) * c.getD i 0)) h := fun h => mulP_l (by omega) (by omega)
    have s1 : setP (.ref h.length) (.int (i : Int)) (.int (((0 :: c).getD i 0 - (x : Int) * c.getD i 0) % (p : Int))) (h ++ [.lst ((tlC p c x i).map PV.int)]) = .ok () (h ++ [.lst ((tlC p c x (i + 1)).map PV.int)]) := by
      rw [setP_ok (xs := (tlC p c x i).map PV.int) (at_end _ _) (ixN_nat (by rw [List.length_map, tlC_len]; omega)), ← tlC_set hi]
      simp [List.map_set, tlA]
    simp only [pmS, pmT, pmU, pmV, if_true, if_false, reduceCtorEq, Bool.false_eq_true, decide_true, decide_false, g1, ml, modP_pos e0, s1, Turn'_nx]
    exact ⟨trivial, _, _, rfl⟩
  · rintro σ h' ⟨rfl, a4, a5, rfl⟩
    refine ⟨by simp, ?_⟩
    rw [enumL_length, List.length_map]
    simp only [pmS, pmT, pmU, pmV, if_true, if_false, reduceCtorEq, Bool.false_eq_true, decide_true, decide_false, frzP_last]
    exact gc_app (by rw [closedV_lst]; exact closedVs_ints _)
/-! the curve through values -/
def upA (p : Nat) (C P : List Int) (lack : Int) (k i : Nat) : Int := if i < k then (C.getD i 0 + lack * P.getD i 0) % (p : Int) else C.getD i 0
def upC (p : Nat) (C P : List Int) (lack : Int) (k : Nat) : List Int := (List.range C.length).map (upA p C P lack k)
theorem upC_len {C P : List Int} {lack : Int} {k : Nat} : (upC p C P lack k).length = C.length := by simp [upC]
theorem upC_at {C P : List Int} {lack : Int} {k i : Nat} (hi : i < C.length) : (upC p C P lack k)[i]? = some (upA p C P lack k i) := by simp [upC, hi]
theorem upC_zero (C P : List Int) (lack : Int) : upC p C P lack 0 = C := by
  refine List.ext_getElem? fun i => ?_
  by_cases w : i < C.length
  · rw [upC_at w]
    unfold upA
    rw [if_neg (by omega), List.getD_eq_getElem?_getD, List.getElem?_eq_getElem w]; rfl
  · rw [List.getElem?_eq_none (by rw [upC_len]; omega), List.getElem?_eq_none (by omega)]
theorem upC_set {C P : List Int} {lack : Int} {k : Nat} (hk : k < C.length) : (upC p C P lack k).set k (upA p C P lack (k + 1) k) = upC p C P lack (k + 1) := by
  refine List.ext_getElem? fun i => ?_
  rw [List.getElem?_set]
  by_cases q : k = i
  · subst q
    rw [if_pos rfl, if_pos (by rw [upC_len]; omega), upC_at hk]
  · rw [if_neg q]
    by_cases w : i < C.length
    · rw [upC_at w, upC_at w]
      unfold upA
      by_cases z : i < k
      · rw [if_pos z, if_pos (by omega)]
      · rw [if_neg z, if_neg (by omega)]
    · rw [List.getElem?_eq_none (by rw [upC_len]; omega), List.getElem?_eq_none (by rw [upC_len]; omega)]
theorem upC_mem (hp : 0 < p) {C P : List Int} {lack : Int} {k : Nat} (hC : ∀ y ∈ C, 0 ≤ y ∧ y < (p : Int)) : ∀ y ∈ upC p C P lack k, 0 ≤ y ∧ y < (p : Int) := fun y hy => by
  obtain ⟨i, hi, rfl⟩ := List.mem_map.mp hy
  have hi := List.mem_range.mp hi
  unfold upA
  split
  · exact ⟨Int.emod_nonneg _ (by omega), Int.emod_lt_of_pos _ (by omega)⟩
  · rw [List.getD_eq_getElem?_getD, List.getElem?_eq_getElem hi]
    exact hC _ (List.getElem_mem hi)
/-- curve and product when x values have been met -/
def ctS (p : Nat) (inv : Int → Nat) (vs : List Int) : Nat → List Int × List Int
  | 0 => (vs.map fun _ => 0, [1])
  | x + 1 => let s := ctS p inv vs x
    (upC p s.1 s.2 ((vs.getD x 0 - hor s.1 x % (p : Int)) * ((inv (hor s.2 x % (p : Int)) : Nat) : Int)) s.2.length, tlL p s.2 x)
theorem ctS_ok (hp : 2 ≤ p) {inv : Int → Nat} {vs : List Int} : ∀ x, (ctS p inv vs x).1.length = vs.length ∧ (ctS p inv vs x).2.length = x + 1 ∧ (∀ y ∈ (ctS p inv vs x).1, 0 ≤ y ∧ y < (p : Int)) ∧ ∀ y ∈ (ctS p inv vs x).2, 0 ≤ y ∧ y < (p : Int)
  | 0 => ⟨by simp [ctS], rfl, fun y hy => by
      obtain ⟨_, _, rfl⟩ := List.mem_map.mp hy
      omega, fun y hy => by
      rw [show (ctS p inv vs 0).2 = [1] from rfl, List.mem_singleton] at hy
      omega⟩
  | x + 1 => by
    obtain ⟨a, b, c, d⟩ := ctS_ok hp (inv := inv) (vs := vs) x
    exact ⟨upC_len.trans a, by show (tlC p (ctS p inv vs x).2 x _).length = _; rw [tlC_len, b], upC_mem (by omega) c, tlL_mem (by omega) d x⟩
theorem curve_through_ok (hp : 2 ≤ p) (hm : p ≤ 101) {inv : Int → Nat} (hi : ∀ a : Int, 0 ≤ a → a < (p : Int) → InvOk p a (inv a) ∧ ∀ h, m_inverse_of [.int (p : Int), .int a] h = .ok (.int ((inv a : Nat) : Int)) h) {vs : List Int} (hv : ∀ y ∈ vs, 0 ≤ y ∧ y < (p : Int)) (hl : vs.length ≤ p) {j : Nat} {h : VH} (e : h[j]? = some (.lst (vs.map PV.int))) :
    m_curve_through [.int (p : Int), .ref j] h = .ok (.tup ((ctS p inv vs vs.length).1.map PV.int)) h := by
  have e0 : (0 : Int) < (p : Int) := by omega
  have jl : j < h.length := (List.getElem?_eq_some_iff.mp e).1
  have ej : ∀ J : VH, (h ++ J)[j]? = some (.lst (vs.map PV.int)) := fun J => by rw [List.getElem?_append_left jl]; exact e
  unfold m_curve_through
  rw [fnRun_go (σ := [some (.int (p : Int)), some (.ref j), none, none, none, none, none, none, none, none]) _ _ _ _ rfl]
  simp only [pmS, pmT, pmU, pmV, if_true, if_false, reduceCtorEq, Bool.false_eq_true, decide_true, decide_false, srcSeq_ref e]
  rw [comp_at (ckO1 e) (fun _ => true) (fun _ => .int 0) (fun i x hi => by exact ⟨_, rfl, by simp only [pmS, pmT, pmU, pmV, if_true, if_false, reduceCtorEq, Bool.false_eq_true, decide_true, decide_false, wipeL], fun _ => by simp only [pmS, pmT, pmU, pmV, if_true, if_false, reduceCtorEq, Bool.false_eq_true, decide_true, decide_false, wipeL]⟩) (by rw [List.length_map]; omega)]
  have z0 : (((List.range (vs.map PV.int).length).filter fun _ => true).map fun _ : Nat => PV.int 0) = (ctS p inv vs 0).1.map PV.int := by
    rw [List.filter_eq_self.mpr (by simp), List.length_map]
    show _ = (vs.map fun _ => (0 : Int)).map PV.int
    refine List.ext_getElem? fun i => ?_
    by_cases w : i < vs.length
    · simp [w]
    · rw [List.getElem?_eq_none (by simp; omega), List.getElem?_eq_none (by simp; omega)]
  have p1 : ([PV.int 1] : List PV) = (ctS p inv vs 0).2.map PV.int := rfl
  have en : ∀ J, srcEnum [.ref j] (h ++ J) = .ok ⟨enumL (vs.map PV.int), [(j, vs.map PV.int)]⟩ (h ++ J) := fun J => srcEnum_ref (ej J)
  simp only [pmS, pmT, pmU, pmV, if_true, if_false, reduceCtorEq, Bool.false_eq_true, decide_true, decide_false, mkL_t, mkL_f, z0, p1, en]
  refine for_bind (fun i σ h' => h' = h ++ [.lst ((ctS p inv vs i).1.map PV.int)] ∧ ∃ a5 a6 a7 a8 a9, σ = [some (.int (p : Int)), some (.ref j), some (.ref h.length), none, some (.lst ((ctS p inv vs i).2.map PV.int)), a5, a6, a7, a8, a9]) ⟨rfl, none, none, none, none, none, rfl⟩ ?_ ?_
  · rintro x v σ h' hq ⟨rfl, a5, a6, a7, a8, a9, rfl⟩
    obtain ⟨y, h1, rfl⟩ := enumL_get hq
    obtain ⟨hx, rfl⟩ := ints_get h1
    have two : ∀ a b : PV, (([a, b] : List PV).length = 2) = True := fun _ _ => eq_true rfl
    refine ⟨ckO1 (ej _), _, _, by simp only [pmS, pmT, pmU, pmV, if_true, if_false, reduceCtorEq, Bool.false_eq_true, decide_true, decide_false, two]; rfl, ?_⟩
    obtain ⟨l1, l2, m1, m2⟩ := ctS_ok hp (inv := inv) (vs := vs) x
    obtain ⟨C, hC⟩ : ∃ C, C = (ctS p inv vs x).1 := ⟨_, rfl⟩
    obtain ⟨P, hP⟩ : ∃ P, P = (ctS p inv vs x).2 := ⟨_, rfl⟩
    have sx : ctS p inv vs (x + 1) = (upC p C P ((vs.getD x 0 - hor C x % (p : Int)) * ((inv (hor P x % (p : Int)) : Nat) : Int)) P.length, tlL p P x) := by rw [hC, hP]; rfl
    rw [sx]
    rw [← hC] at l1 m1
    rw [← hP] at l2 m2
    rw [← hC, ← hP]
    have xp : x < p := by omega
    have v1 : m_value_of [.int (p : Int), .ref h.length, .int (x : Int)] (h ++ [.lst (C.map PV.int)]) = .ok (.int (hor C x % (p : Int))) (h ++ [.lst (C.map PV.int)]) := value_of_ref (by omega) hm C x xp (at_end _ _)
    have v2 := fun h => value_of_lst (by omega : 0 < p) hm P x xp h
    have c1 := Int.emod_nonneg (hor C x) (show (p : Int) ≠ 0 by omega)
    have c2 := Int.emod_lt_of_pos (hor C x) e0
    obtain ⟨ik, iv⟩ := hi (hor P x % (p : Int)) (Int.emod_nonneg _ (by omega)) (Int.emod_lt_of_pos _ e0)
    have il := ik.1
    have yb := hv _ (show vs.getD x 0 ∈ vs by rw [List.getD_eq_getElem?_getD, List.getElem?_eq_getElem hx]; exact List.getElem_mem hx)
    obtain ⟨lk, hlk⟩ : ∃ lk, lk = (vs.getD x 0 - hor C x % (p : Int)) * ((inv (hor P x % (p : Int)) : Nat) : Int) := ⟨_, rfl⟩
    have ml : ∀ h, mulP false (.int (vs.getD x 0 - hor C x % (p : Int))) (.int ((inv (hor P x % (p : Int)) : Nat) : Int)) h = .ok (.int lk) h := fun h => by rw [hlk]; exact mulP_l (by omega) (by omega)
    have eP : ∀ h, srcEnum [.lst (P.map PV.int)] h = .ok ⟨enumL (P.map PV.int), []⟩ h := fun _ => rfl
    rw [← hlk]
    simp only [pmS, pmT, pmU, pmV, if_true, if_false, reduceCtorEq, Bool.false_eq_true, decide_true, decide_false, v1, v2, iv, ml, eP]
    refine for_go (R := fun r => Turn' _ _ (r.bind _)) (fun k σ h' => h' = h ++ [.lst ((upC p C P lk k).map PV.int)] ∧ ∃ a8 a9, σ = [some (.int (p : Int)), some (.ref j), some (.ref h.length), none, some (.lst (P.map PV.int)), some (.int (x : Int)), some (.int (vs.getD x 0)), some (.int lk), a8, a9]) ⟨by rw [upC_zero], _, _, rfl⟩ ?_ ?_
    · rintro k v σ h' hq ⟨rfl, a8, a9, rfl⟩
      obtain ⟨y, h1, rfl⟩ := enumL_get hq
      obtain ⟨hk, rfl⟩ := ints_get h1
      refine ⟨by simp, _, _, by simp only [pmS, pmT, pmU, pmV, if_true, if_false, reduceCtorEq, Bool.false_eq_true, decide_true, decide_false, two]; rfl, ?_⟩
      have kl : k < C.length := by omega
      have g1 : ixP (.ref h.length) (.int (k : Int)) (h ++ [.lst ((upC p C P lk k).map PV.int)]) = .ok (.int (C.getD k 0)) (h ++ [.lst ((upC p C P lk k).map PV.int)]) := ixP_ref (at_end _ _) (by omega) (by
        rw [List.getElem?_map, show ((k : Int)).toNat = k by omega, upC_at kl]
        unfold upA
        rw [if_neg (by omega)]; rfl)
      have pb := m2 _ (show P.getD k 0 ∈ P by rw [List.getD_eq_getElem?_getD, List.getElem?_eq_getElem hk]; exact List.getElem_mem hk)
      have m3 : ∀ h, mulP false (.int lk) (.int (P.getD k 0)) h = .ok (.int (lk * P.getD k 0)) h := fun h => mulP_r (by omega) (by omega)
      have s1 : setP (.ref h.length) (.int (k : Int)) (.int ((C.getD k 0 + lk * P.getD k 0) % (p : Int))) (h ++ [.lst ((upC p C P lk k).map PV.int)]) = .ok () (h ++ [.lst ((upC p C P lk (k + 1)).map PV.int)]) := by
        rw [setP_ok (xs := (upC p C P lk k).map PV.int) (at_end _ _) (ixN_nat (by rw [List.length_map, upC_len]; omega)), ← upC_set kl]
        simp [List.map_set, upA]
      simp only [pmS, pmT, pmU, pmV, if_true, if_false, reduceCtorEq, Bool.false_eq_true, decide_true, decide_false, g1, m3, modP_pos e0, s1, Turn'_nx]
      exact ⟨trivial, _, _, rfl⟩
    · rintro σ h' ⟨rfl, a8, a9, rfl⟩
      refine ⟨by simp, ?_⟩
      rw [enumL_length, List.length_map]
      have tl := fun h => times_less_ok (by omega : 0 < p) hm m2 (by omega) xp h
      simp only [pmS, pmT, pmU, pmV, if_true, if_false, reduceCtorEq, Bool.false_eq_true, decide_true, decide_false, tl, Turn'_nx]
      exact ⟨trivial, _, _, _, _, _, rfl⟩
  · rintro σ h' ⟨rfl, a5, a6, a7, a8, a9, rfl⟩
    rw [enumL_length, List.length_map]
    refine ⟨ckO1 (ej _), ?_⟩
    have tp : tupleP (.ref h.length) (h ++ [.lst ((ctS p inv vs vs.length).1.map PV.int)]) = .ok (.tup ((ctS p inv vs vs.length).1.map PV.int)) (h ++ [.lst ((ctS p inv vs vs.length).1.map PV.int)]) := tupleP_ref (at_end _ _)
    simp only [pmS, pmT, pmU, pmV, if_true, if_false, reduceCtorEq, Bool.false_eq_true, decide_true, decide_false, tp]
    exact gc_app (by simp)
/-! the nearest curve -/
/-- the value with the most votes, the least one -/
def topV (L : List Int) : Nat := L.idxOf (maxL L)
def crvV (p : Nat) (inv : Int → Nat) (d : Nat) (F : List Int) (k : Nat) : List Int := (List.range k).map fun x => ((topV (cL p (d + 1) F x p) : Nat) : Int)
theorem topV_lt {L : List Int} (h : L ≠ []) : topV L < L.length := List.idxOf_lt_length_of_mem (maxL_spec h).1
theorem first_top {L : List Int} (h : L ≠ []) : ∃ R, (List.range L.length).filter (fun v => decide (L.getD v 0 = maxL L)) = topV L :: R := by
  have tl := topV_lt h
  have e : L.length = topV L + ((L.length - topV L - 1) + 1) := by omega
  have no : (List.range (topV L)).filter (fun v => decide (L.getD v 0 = maxL L)) = [] := by
    rw [List.filter_eq_nil_iff]
    intro v hv
    have hv := List.mem_range.mp hv
    have := List.not_of_lt_findIdx (p := (· == maxL L)) (xs := L) hv
    have g : L.getD v 0 = L[v]'(by omega) := by rw [List.getD_eq_getElem?_getD, List.getElem?_eq_getElem (by omega)]; rfl
    rw [g]
    simpa using this
  have g : L.getD (topV L) 0 = maxL L := by
    rw [List.getD_eq_getElem?_getD, List.getElem?_eq_getElem tl]
    exact List.getElem_idxOf tl
  rw [e, List.range_add, List.filter_append, no, List.nil_append, List.range_succ_eq_map, List.map_cons, List.filter_cons_of_pos (by simpa using g)]
  exact ⟨_, rfl⟩
theorem places_ok (hp : 0 < p) (hm : p ≤ 101) (c : List Int) {F : List Int} (hF : F.length = p) (h : VH) : m_places_apart [.int (p : Int), .tup (c.map PV.int), .tup (F.map PV.int)] h = .ok (.tup (((List.range p).filter fun x : Nat => !decide (hor c (x : Int) % (p : Int) = F.getD x 0)).map fun x : Nat => PV.int (x : Int))) h := by
  unfold m_places_apart
  rw [fnRun_go (σ := [some (.int (p : Int)), some (.tup (c.map PV.int)), some (.tup (F.map PV.int)), none]) _ _ _ _ rfl]
  simp only [pmS, pmT, pmU, pmV, if_true, if_false, reduceCtorEq, Bool.false_eq_true, decide_true, decide_false, srcRngN (n := p) _ (show p ≤ 1000000 by omega)]
  rw [comp_rngF (by simp) (fun x : Nat => !decide (hor c (x : Int) % (p : Int) = F.getD x 0)) (fun x : Nat => .int (x : Int)) (fun x hx => ⟨_, rfl, by
    have g1 : ∀ h, ixP (.tup (F.map PV.int)) (.int (x : Int)) h = .ok (.int (F.getD x 0)) h := fun h => ixN_tup h (by omega)
    simp only [pmS, pmT, pmU, pmV, if_true, if_false, reduceCtorEq, Bool.false_eq_true, decide_true, decide_false, wipeL, value_of_tup hp hm c x hx, g1], fun _ => by simp only [pmS, pmT, pmU, pmV, if_true, if_false, reduceCtorEq, Bool.false_eq_true, decide_true, decide_false, wipeL]⟩) (by omega)]
  simp only [pmS, pmT, pmU, pmV, if_true, if_false, reduceCtorEq, Bool.false_eq_true, decide_true, decide_false, mkL_f]
  exact gc_same ((closedV_tup _).mpr (closedVs_iff.mpr fun y hy => by obtain ⟨z, _, rfl⟩ := List.mem_map.mp hy; simp))
theorem close_curve_ok (hp : primeB p = true) (hm : p ≤ 101) {d : Nat} (hd : d ≤ 4) (hdp : d + 2 ≤ p) {F : List Int} (hF : Tbl p F) {inv : Int → Nat} (hi : ∀ a : Int, 0 ≤ a → a < (p : Int) → InvOk p a (inv a) ∧ ∀ h, m_inverse_of [.int (p : Int), .int a] h = .ok (.int ((inv a : Nat) : Int)) h) (h : VH) :
    m_close_curve [.int (p : Int), .int (d : Int), .tup (F.map PV.int)] h = .ok (if 2 * ((d : Int) + 1) * (((List.range p).filter fun x : Nat => !decide (hor (ctS p inv (crvV p inv d F (d + 1)) (d + 1)).1 (x : Int) % (p : Int) = F.getD x 0)).length : Int) < (p : Int) then .tup ((ctS p inv (crvV p inv d F (d + 1)) (d + 1)).1.map PV.int) else .non) h := by
  have p0 : 0 < p := by omega
  have cne : ∀ x, cL p (d + 1) F x p ≠ [] := fun x z => by
    have := congrArg List.length z
    rw [cL_len] at this
    simp at this; omega
  have vl : ∀ k, (crvV p inv d F k).length = k := fun k => by simp [crvV]
  have vm : ∀ k, ∀ y ∈ crvV p inv d F k, 0 ≤ y ∧ y < (p : Int) := fun k y hy => by
    obtain ⟨x, _, rfl⟩ := List.mem_map.mp hy
    have := topV_lt (cne x)
    rw [cL_len] at this
    omega
  unfold m_close_curve
  rw [fnRun_go (σ := [some (.int (p : Int)), some (.int (d : Int)), some (.tup (F.map PV.int)), none, none, none, none, none]) _ _ _ _ rfl]
  have sr : ∀ h, srcRng [.int ((d : Int) + 1)] h = .ok ⟨rngL 0 (d + 1), []⟩ h := fun h => by
    have := srcRngN (n := d + 1) h (by omega)
    rwa [show ((d + 1 : Nat) : Int) = (d : Int) + 1 by omega] at this
  have rp : ∀ h, srcRng [.int (p : Int)] h = .ok ⟨rngL 0 p, []⟩ h := fun h => srcRngN (n := p) h (by omega)
  simp only [pmS, pmT, pmU, pmV, if_true, if_false, reduceCtorEq, Bool.false_eq_true, decide_true, decide_false, check_degree_ok hp hm hd hdp hF, sr, mkL_t]
  refine for_bind (fun i σ h' => h' = h ++ [.lst ((crvV p inv d F i).map PV.int)] ∧ ∃ a4 a5, σ = [some (.int (p : Int)), some (.int (d : Int)), some (.tup (F.map PV.int)), some (.ref h.length), a4, a5, none, none]) ⟨rfl, none, none, rfl⟩ ?_ ?_
  · rintro x v σ h' hq ⟨rfl, a4, a5, rfl⟩
    obtain ⟨hx, rfl⟩ := rng_get hq
    refine ⟨by simp, _, _, rfl, ?_⟩
    have vo := fun h => votes_ok hp hm hd hdp hF (show x < p by omega) h
    have mx : ∀ H, maxP [.tup ((cL p (d + 1) F x p).map PV.int)] H = .ok (.int (maxL (cL p (d + 1) F x p))) H := fun H => maxP_ok (by rw [seqOf_tup, Option.bind_some]; exact intsOf_map _) (cne x)
    have lm : ∀ (f : PV → List PV → VH → Res PV) (ms : AM) (σ : LS), lstMt (.ref h.length) ms σ (h ++ [.lst ((crvV p inv d F x).map PV.int)]) f = (ms σ (h ++ [.lst ((crvV p inv d F x).map PV.int)])).bind fun ys h1 => f (.ref h.length) ys h1 := fun f ms σ => lstMt_ok (lstOf_ref (at_end _ _))
    simp only [pmS, pmT, pmU, pmV, if_true, if_false, reduceCtorEq, Bool.false_eq_true, decide_true, decide_false, vo, rp, lm]
    rw [comp_rngF (by simp) (fun v => decide ((cL p (d + 1) F x p).getD v 0 = maxL (cL p (d + 1) F x p))) (fun v : Nat => .int (v : Int)) (fun v hv => ⟨_, rfl, by
      have g1 : ∀ h, ixP (.tup ((cL p (d + 1) F x p).map PV.int)) (.int (v : Int)) h = .ok (.int ((cL p (d + 1) F x p).getD v 0)) h := fun h => ixN_tup h (by rw [cL_len]; exact hv)
      simp only [pmS, pmT, pmU, pmV, if_true, if_false, reduceCtorEq, Bool.false_eq_true, decide_true, decide_false, wipeL, g1, mx], fun _ => by simp only [pmS, pmT, pmU, pmV, if_true, if_false, reduceCtorEq, Bool.false_eq_true, decide_true, decide_false, wipeL]⟩) (by omega)]
    obtain ⟨R, hR⟩ := first_top (cne x)
    rw [cL_len] at hR
    have i0 : ∀ h, ixP (.lst ((topV (cL p (d + 1) F x p) :: R).map fun v : Nat => PV.int (v : Int))) (.int 0) h = .ok (.int ((topV (cL p (d + 1) F x p) : Nat) : Int)) h := fun h => ixP_lst (by omega) rfl
    have ap : appendP (.ref h.length) [.int ((topV (cL p (d + 1) F x p) : Nat) : Int)] (h ++ [.lst ((crvV p inv d F x).map PV.int)]) = .ok .non (h ++ [.lst ((crvV p inv d F (x + 1)).map PV.int)]) := by
      rw [append_end (by rw [List.length_map, vl]; omega)]
      simp [crvV, List.range_succ]
    rw [hR]
    simp only [pmS, pmT, pmU, pmV, if_true, if_false, reduceCtorEq, Bool.false_eq_true, decide_true, decide_false, mkL_f, i0, ap, Turn'_nx]
    exact ⟨trivial, _, _, rfl⟩
  · rintro σ h' ⟨rfl, a4, a5, rfl⟩
    rw [rng_len]
    refine ⟨by simp, ?_⟩
    have ct : m_curve_through [.int (p : Int), .ref h.length] (h ++ [.lst ((crvV p inv d F (d + 1)).map PV.int)]) = .ok (.tup ((ctS p inv (crvV p inv d F (d + 1)) (d + 1)).1.map PV.int)) (h ++ [.lst ((crvV p inv d F (d + 1)).map PV.int)]) := by
      have := curve_through_ok (by omega : 2 ≤ p) hm hi (vm (d + 1)) (by rw [vl]; omega) (at_end h (.lst ((crvV p inv d F (d + 1)).map PV.int)))
      rwa [vl] at this
    obtain ⟨C, hC⟩ : ∃ C, C = (ctS p inv (crvV p inv d F (d + 1)) (d + 1)).1 := ⟨_, rfl⟩
    rw [← hC] at ct ⊢
    have pl := fun h => places_ok p0 hm C hF.1 h
    obtain ⟨W, hW⟩ : ∃ W, W = (List.range p).filter fun x : Nat => !decide (hor C (x : Int) % (p : Int) = F.getD x 0) := ⟨_, rfl⟩
    rw [← hW] at pl ⊢
    have wl : W.length ≤ p := by rw [hW]; exact Nat.le_trans (List.length_filter_le _ _) (by simp)
    have m1 : ∀ h, mulP false (.int 2) (.int ((d : Int) + 1)) h = .ok (.int (2 * ((d : Int) + 1))) h := fun h => mulP_l (by omega) (by omega)
    have m2 : ∀ h, mulP false (.int (2 * ((d : Int) + 1))) (.int (W.length : Int)) h = .ok (.int (2 * ((d : Int) + 1) * (W.length : Int))) h := fun h => mulP_l (by omega) (by omega)
    by_cases q : 2 * ((d : Int) + 1) * (W.length : Int) < (p : Int)
    · rw [if_pos q]
      simp only [pmS, pmT, pmU, pmV, if_true, if_false, reduceCtorEq, Bool.false_eq_true, decide_true, decide_false, ct, pl, List.length_map, m1, m2, eq_true q]
      exact gc_app (by simp)
    · rw [if_neg q]
      simp only [pmS, pmT, pmU, pmV, if_true, if_false, reduceCtorEq, Bool.false_eq_true, decide_true, decide_false, ct, pl, List.length_map, m1, m2, eq_false q]
      exact gc_app (by simp)
end
end Pm
namespace Pm
open PySem PySem.Spec L2 PyProof.Rows
/-! ### a curve is known by its values -/
section
variable {p : Nat}
theorem dvd_DN : ∀ (n : Nat) (g : Int → Int) (x : Int), (∀ i : Nat, i ≤ n → (p : Int) ∣ g (x + (i : Int))) → (p : Int) ∣ DN n g x
  | 0, g, x, h => by have := h 0 (by omega); simpa [DN] using this
  | n + 1, g, x, h => by
    rw [DN_succ']
    refine dvd_DN n (Df g) x fun i hi => ?_
    have a := h (i + 1) (by omega)
    have b := h i (by omega)
    have e : x + ((i + 1 : Nat) : Int) = x + (i : Int) + 1 := by push_cast; omega
    rw [e] at a
    exact Int.dvd_sub a b
theorem hor_snoc : ∀ (cs : List Int) (c y : Int), hor (cs ++ [c]) y = hor cs y + c * y ^ cs.length
  | [], c, y => by simp [hor]
  | a :: cs, c, y => by
    show a + y * hor (cs ++ [c]) y = a + y * hor cs y + c * y ^ (cs.length + 1)
    rw [hor_snoc cs c y, Int.pow_succ]
    grind
/-- no curve of so few numbers is zero at so many places, but the one of zeros -/
theorem hor_zero (hp : primeB p = true) : ∀ (n : Nat) (e : List Int), e.length = n → n ≤ p → (∀ y : Nat, y < n → (p : Int) ∣ hor e (y : Int)) → ∀ z ∈ e, (p : Int) ∣ z
  | 0, e, l, _, _ => fun z hz => by rw [List.eq_nil_of_length_eq_zero l] at hz; exact absurd hz List.not_mem_nil
  | n + 1, e, l, hn, h => by
    obtain ⟨cs, c, rfl⟩ : ∃ cs c, e = cs ++ [c] := by
      have ne : e ≠ [] := fun z => by rw [z] at l; simp at l
      exact ⟨e.dropLast, e.getLast ne, (List.dropLast_concat_getLast ne).symm⟩
    have lc : cs.length = n := by simpa using l
    have d := dvd_DN (p := p) n (hor (cs ++ [c])) 0 fun i hi => by
      rw [Int.zero_add]; exact h i (by omega)
    have e1 := Pol.last (hor_pol cs c) 0
    rw [lc] at e1
    rw [e1] at d
    obtain ⟨k, ek, cop⟩ := fct_nat n
    rw [ek] at d
    have pc : (p : Int) ∣ c := by
      have g := cop p hp (by omega)
      rw [Int.ofNat_dvd_left, Int.natAbs_mul, Int.natAbs_natCast] at d
      exact Int.ofNat_dvd_left.mpr (g.dvd_of_dvd_mul_left d)
    refine fun z hz => ?_
    rcases List.mem_append.mp hz with q | q
    · refine hor_zero hp n cs lc (by omega) (fun y hy => ?_) z q
      have := h y (by omega)
      rw [hor_snoc] at this
      exact (Int.dvd_add_left (Int.dvd_trans pc (Int.dvd_mul_right c _))).mp this
    · rw [List.mem_singleton.mp q]; exact pc
end
end Pm
namespace Pm
open PySem PySem.Spec L2 PyProof.Rows
/-! ### the curve through values is the one that has them -/
section
variable {p : Nat}
theorem hor_congr (y : Int) : ∀ (A B : List Int), A.length = B.length → (∀ i, i < A.length → (p : Int) ∣ A.getD i 0 - B.getD i 0) → (p : Int) ∣ hor A y - hor B y
  | [], [], _, _ => by simp [hor]
  | [], _ :: _, l, _ => by simp at l
  | _ :: _, [], l, _ => by simp at l
  | a :: A, b :: B, l, h => by
    have h0 : (p : Int) ∣ a - b := by have := h 0 (by simp); simpa using this
    have ih := hor_congr y A B (by simpa using l) fun i hi => by
      have := h (i + 1) (by simpa using hi)
      simpa using this
    have e : hor (a :: A) y - hor (b :: B) y = (a - b) + y * (hor A y - hor B y) := by
      show a + y * hor A y - (b + y * hor B y) = _
      grind
    rw [e]
    exact Int.dvd_add h0 (Int.dvd_trans ih (Int.dvd_mul_left _ _))
theorem hor_zip (k y : Int) : ∀ (A B : List Int), A.length = B.length → hor (List.zipWith (fun u v => u + k * v) A B) y = hor A y + k * hor B y
  | [], [], _ => by simp [hor]
  | [], _ :: _, l => by simp at l
  | _ :: _, [], l => by simp at l
  | a :: A, b :: B, l => by
    have ih := hor_zip k y A B (by simpa using l)
    show (a + k * b) + y * hor (List.zipWith (fun u v => u + k * v) A B) y = a + y * hor A y + k * (b + y * hor B y)
    rw [ih]
    grind
theorem zip_getD (k : Int) {A B : List Int} (l : A.length = B.length) {i : Nat} (hi : i < A.length) : (List.zipWith (fun u v => u + k * v) A B).getD i 0 = A.getD i 0 + k * B.getD i 0 := by
  have hb : i < B.length := by omega
  rw [List.getD_eq_getElem?_getD, List.getElem?_zipWith, List.getD_eq_getElem?_getD, List.getD_eq_getElem?_getD, List.getElem?_eq_getElem hi, List.getElem?_eq_getElem hb]
  rfl
theorem mod_sub (a : Int) : (p : Int) ∣ a % (p : Int) - a := by
  have := Int.emod_add_mul_ediv a (p : Int)
  exact ⟨-(a / (p : Int)), by grind⟩
theorem tlL_hor (P : List Int) (a : Nat) (y : Int) : (p : Int) ∣ hor (tlL p P a) y - (y - (a : Int)) * hor P y := by
  have l : (0 :: P).length = (P ++ [0]).length := by simp
  have z := hor_zip (-(a : Int)) y (0 :: P) (P ++ [0]) l
  have e1 : hor (0 :: P) y = y * hor P y := by show 0 + y * hor P y = _; omega
  have e2 : hor (P ++ [0]) y = hor P y := by rw [hor_snoc]; omega
  rw [e1, e2] at z
  have e3 : (y - (a : Int)) * hor P y = y * hor P y + -(a : Int) * hor P y := by grind
  rw [e3, ← z]
  refine hor_congr y _ _ (by simp [tlL, tlC]) fun i hi => ?_
  have hi : i < P.length + 1 := by simpa [tlL, tlC] using hi
  rw [zip_getD _ l (by simpa using hi)]
  have g : (tlL p P a).getD i 0 = tlA p P a P.length i := by
    rw [List.getD_eq_getElem?_getD]
    show (Option.getD (tlC p P a P.length)[i]? 0) = _
    rw [tlC_at hi]; rfl
  rw [g]
  unfold tlA
  by_cases q : i < P.length
  · rw [if_pos q]
    have e4 : (P ++ [0]).getD i 0 = P.getD i 0 := by rw [List.getD_eq_getElem?_getD, List.getElem?_append_left q, ← List.getD_eq_getElem?_getD]
    rw [e4]
    have := mod_sub (p := p) ((0 :: P).getD i 0 - (a : Int) * P.getD i 0)
    have e5 : (0 :: P).getD i 0 + -(a : Int) * P.getD i 0 = (0 :: P).getD i 0 - (a : Int) * P.getD i 0 := by grind
    rw [e5]; exact this
  · rw [if_neg q]
    have e4 : (P ++ [0]).getD i 0 = 0 := by
      have : i = P.length := by omega
      rw [this]; simp [List.getD_eq_getElem?_getD]
    rw [e4]
    simp
theorem upC_hor {C P : List Int} (l : P.length ≤ C.length) (k y : Int) : (p : Int) ∣ hor (upC p C P k P.length) y - (hor C y + k * hor P y) := by
  have l2 : C.length = (P ++ List.replicate (C.length - P.length) 0).length := by simp; omega
  have z := hor_zip k y C (P ++ List.replicate (C.length - P.length) 0) l2
  rw [hor_zeros P _ (fun z hz => List.eq_of_mem_replicate hz)] at z
  rw [← z]
  refine hor_congr y _ _ (by simp [upC]; omega) fun i hi => ?_
  have hi : i < C.length := by simpa [upC] using hi
  rw [zip_getD _ l2 hi]
  have g : (upC p C P k P.length).getD i 0 = upA p C P k P.length i := by
    rw [List.getD_eq_getElem?_getD, upC_at hi]; rfl
  rw [g]
  unfold upA
  by_cases q : i < P.length
  · rw [if_pos q]
    have e4 : (P ++ List.replicate (C.length - P.length) 0).getD i 0 = P.getD i 0 := by rw [List.getD_eq_getElem?_getD, List.getElem?_append_left q, ← List.getD_eq_getElem?_getD]
    rw [e4]
    exact mod_sub _
  · rw [if_neg q]
    have e4 : (P ++ List.replicate (C.length - P.length) 0).getD i 0 = 0 := by
      rw [List.getD_eq_getElem?_getD, List.getElem?_append_right (by omega), List.getElem?_replicate]
      split <;> rfl
    rw [e4]
    simp
theorem inv_at (hp : primeB p = true) (h2 : 2 ≤ p) {a : Int} (ha : 0 ≤ a ∧ a < (p : Int)) (hn : a ≠ 0) {r : Nat} (R : InvOk p a r) : a * (r : Int) % (p : Int) = 1 := by
  rcases R.2 with h | ⟨_, no⟩
  · exact h.2
  · obtain ⟨n, rfl⟩ := Int.eq_ofNat_of_zero_le ha.1
    have np : n < p := by omega
    have cop := cop_ne (k := n) hp (by rw [Nat.mod_eq_of_lt np]; omega)
    obtain ⟨i, hi, ei⟩ := (inj_mul cop 0).onto (y := 1) (by omega)
    have ei : (0 + n * i) % p = 1 := ei
    rw [Nat.zero_add] at ei
    have i0 : 1 ≤ i := by
      refine Nat.one_le_iff_ne_zero.mpr fun z => ?_
      rw [z, Nat.mul_zero, Nat.zero_mod] at ei
      omega
    exact absurd (by exact_mod_cast ei) (no i i0 hi)
theorem dvd_of_mul (hp : primeB p = true) {k : Nat} (k0 : 0 < k) (kp : k < p) {b : Int} (h : (p : Int) ∣ (k : Int) * b) : (p : Int) ∣ b := by
  have g := cop_lt hp k0 kp
  rw [Int.ofNat_dvd_left, Int.natAbs_mul, Int.natAbs_natCast] at h
  exact Int.ofNat_dvd_left.mpr (g.dvd_of_dvd_mul_left h)
theorem ctS_at (hp : primeB p = true) (h2 : 2 ≤ p) {inv : Int → Nat} (hi : ∀ a : Int, 0 ≤ a → a < (p : Int) → InvOk p a (inv a)) {vs : List Int} (hl : vs.length ≤ p) : ∀ x, x ≤ vs.length →
    (∀ y : Nat, y < x → (p : Int) ∣ hor (ctS p inv vs x).2 y) ∧ (∀ y : Nat, x ≤ y → y < p → ¬ (p : Int) ∣ hor (ctS p inv vs x).2 y) ∧ ∀ y : Nat, y < x → (p : Int) ∣ hor (ctS p inv vs x).1 y - vs.getD y 0
  | 0, _ => ⟨fun y hy => absurd hy (Nat.not_lt_zero _), fun y _ _ d => by
      have e : hor (ctS p inv vs 0).2 (y : Int) = 1 := by show 1 + (y : Int) * 0 = 1; omega
      rw [e] at d
      have := Int.le_of_dvd (by omega) d
      omega, fun y hy => absurd hy (Nat.not_lt_zero _)⟩
  | x + 1, hx => by
    obtain ⟨A, B, D⟩ := ctS_at hp h2 hi hl x (by omega)
    obtain ⟨l1, l2, _, _⟩ := ctS_ok h2 (inv := inv) (vs := vs) x
    obtain ⟨C, hC⟩ : ∃ C, C = (ctS p inv vs x).1 := ⟨_, rfl⟩
    obtain ⟨P, hP⟩ : ∃ P, P = (ctS p inv vs x).2 := ⟨_, rfl⟩
    obtain ⟨lk, hlk⟩ : ∃ lk, lk = (vs.getD x 0 - hor C x % (p : Int)) * ((inv (hor P x % (p : Int)) : Nat) : Int) := ⟨_, rfl⟩
    have sx : ctS p inv vs (x + 1) = (upC p C P lk P.length, tlL p P x) := by rw [hlk, hC, hP]; rfl
    rw [sx]
    rw [← hC] at l1 D
    rw [← hP] at l2 A B
    have tl := fun y : Nat => tlL_hor (p := p) P x (y : Int)
    have up := fun y : Nat => upC_hor (p := p) (C := C) (P := P) (by omega) lk (y : Int)
    refine ⟨fun y hy => ?_, fun y h1 h3 d => ?_, fun y hy => ?_⟩
    · have t := tl y
      have z : (p : Int) ∣ ((y : Int) - (x : Int)) * hor P (y : Int) := by
        by_cases q : y = x
        · rw [q, Int.sub_self, Int.zero_mul]; exact Int.dvd_zero _
        · exact Int.dvd_trans (A y (by omega)) (Int.dvd_mul_left _ _)
      have := Int.dvd_add t z
      rwa [Int.sub_add_cancel] at this
    · have t := tl y
      have z : (p : Int) ∣ ((y - x : Nat) : Int) * hor P (y : Int) := by
        have e : ((y - x : Nat) : Int) = (y : Int) - (x : Int) := by omega
        rw [e]
        have := Int.dvd_sub d t
        rwa [Int.sub_sub_self] at this
      exact B y (by omega) h3 (dvd_of_mul hp (by omega) (by omega) z)
    · have u := up y
      show (p : Int) ∣ hor (upC p C P lk P.length) (y : Int) - vs.getD y 0
      have e : hor (upC p C P lk P.length) (y : Int) - vs.getD y 0 = (hor (upC p C P lk P.length) (y : Int) - (hor C y + lk * hor P y)) + (hor C y + lk * hor P y - vs.getD y 0) := by grind
      rw [e]
      refine Int.dvd_add u ?_
      by_cases q : y = x
      · subst q
        have nz := B y (by omega) (by omega)
        have a0 := Int.emod_nonneg (hor P (y : Int)) (show (p : Int) ≠ 0 by omega)
        have a1 := Int.emod_lt_of_pos (hor P (y : Int)) (show (0 : Int) < (p : Int) by omega)
        have an : hor P (y : Int) % (p : Int) ≠ 0 := fun z => nz (Int.dvd_of_emod_eq_zero z)
        have iv := inv_at hp h2 ⟨a0, a1⟩ an (hi _ a0 a1)
        have e1 := Int.emod_add_mul_ediv (hor P (y : Int)) (p : Int)
        have e2 := Int.emod_add_mul_ediv (hor C (y : Int)) (p : Int)
        have e3 := Int.emod_add_mul_ediv (hor P (y : Int) % (p : Int) * ((inv (hor P (y : Int) % (p : Int)) : Nat) : Int)) (p : Int)
        rw [iv] at e3
        rw [hlk]
        revert e1 e2 e3
        generalize ((inv (hor P (y : Int) % (p : Int)) : Nat) : Int) = r
        generalize hor P (y : Int) % (p : Int) = a
        generalize hor C (y : Int) % (p : Int) = m
        generalize hor P (y : Int) / (p : Int) = q1
        generalize hor C (y : Int) / (p : Int) = q2
        generalize a * r / (p : Int) = q3
        generalize hor P (y : Int) = hP'
        generalize hor C (y : Int) = hC'
        generalize vs.getD y 0 = v
        intro e1 e2 e3
        refine ⟨q2 + (v - m) * (q3 + q1 * r), ?_⟩
        rw [← e1, ← e2]
        have e4 : r * (a + (p : Int) * q1) = 1 + (p : Int) * (q3 + q1 * r) := by grind
        have e5 : (v - m) * r * (a + (p : Int) * q1) = (v - m) * (r * (a + (p : Int) * q1)) := by grind
        rw [e5, e4]
        grind
      · have e6 : hor C (y : Int) + lk * hor P (y : Int) - vs.getD y 0 = (hor C (y : Int) - vs.getD y 0) + lk * hor P (y : Int) := by grind
        rw [e6]
        exact Int.dvd_add (D y (by omega)) (Int.dvd_trans (A y (by omega)) (Int.dvd_mul_left _ _))
/-- the curve through the values of a curve is that curve -/
theorem ctS_is (hp : primeB p = true) (h2 : 2 ≤ p) {inv : Int → Nat} (hi : ∀ a : Int, 0 ≤ a → a < (p : Int) → InvOk p a (inv a)) {vs c : List Int} (hl : vs.length ≤ p) (lc : c.length = vs.length) (cm : ∀ y ∈ c, 0 ≤ y ∧ y < (p : Int)) (hv : ∀ x : Nat, x < vs.length → vs.getD x 0 = hor c x % (p : Int)) : (ctS p inv vs vs.length).1 = c := by
  obtain ⟨_, _, D⟩ := ctS_at hp h2 hi hl vs.length (by omega)
  obtain ⟨l1, _, m1, _⟩ := ctS_ok h2 (inv := inv) (vs := vs) vs.length
  obtain ⟨C, hC⟩ : ∃ C, C = (ctS p inv vs vs.length).1 := ⟨_, rfl⟩
  rw [← hC] at l1 m1 D ⊢
  have le : C.length = c.length := by omega
  have z := hor_zero hp c.length (List.zipWith (fun u v => u + (-1) * v) C c) (by simp [le]) (by omega) fun y hy => by
    rw [hor_zip (-1) (y : Int) C c le]
    have d := D y (by omega)
    rw [hv y (by omega)] at d
    have d2 := mod_sub (p := p) (hor c (y : Int))
    have := Int.dvd_add d d2
    have e : hor C (y : Int) + -1 * hor c (y : Int) = hor C (y : Int) - hor c (y : Int) % (p : Int) + (hor c (y : Int) % (p : Int) - hor c (y : Int)) := by grind
    rw [e]; exact this
  refine List.ext_getElem le fun i h1 h3 => ?_
  have hz := z (C[i] + (-1) * c[i]) (by
    have : (List.zipWith (fun u v => u + (-1) * v) C c)[i]? = some (C[i] + (-1) * c[i]) := by
      rw [List.getElem?_zipWith, List.getElem?_eq_getElem h1, List.getElem?_eq_getElem h3]
    exact List.mem_of_getElem? this)
  have b1 := m1 _ (List.getElem_mem h1)
  have b2 := cm _ (List.getElem_mem h3)
  obtain ⟨q, hq⟩ := hz
  have q0 : q = 0 := by
    refine Classical.byContradiction fun nq => ?_
    rcases Int.lt_or_gt_of_ne nq with w | w
    · have : (p : Int) * q ≤ (p : Int) * (-1) := Int.mul_le_mul_of_nonneg_left (by omega) (by omega)
      omega
    · have : (p : Int) * 1 ≤ (p : Int) * q := Int.mul_le_mul_of_nonneg_left (by omega) (by omega)
      omega
  rw [q0, Int.mul_zero] at hq
  omega
end
end Pm
namespace Pm
open PySem PySem.Spec L2 PyProof.Rows
/-! ### near a curve the votes are its values -/
section
variable {p n : Nat} {F C : List Int}
theorem sm_pair {m a b : Nat} {f : Nat → Int} (ha : a < m) (hb : b < m) (ne : a ≠ b) (h0 : ∀ i, i < m → 0 ≤ f i) : f a + f b ≤ sm m f := by
  have e : sm m (fun i => (if i = a then f a else 0) + (if i = b then f b else 0)) = f a + f b := by
    rw [sm_add, sm_one (a := a) ha (fun i _ q => if_neg q), sm_one (a := b) hb (fun i _ q => if_neg q), if_pos rfl, if_pos rfl]
  rw [← e]
  refine sm_le fun i hi => ?_
  by_cases q : i = a
  · subst q
    rw [if_pos rfl, if_neg ne]; omega
  · rw [if_neg q]
    by_cases w : i = b
    · subst w; rw [if_pos rfl]; omega
    · rw [if_neg w]; have := h0 i hi; omega
/-- where the steps meet no wrong place, the vote is the value of the curve -/
theorem vt_good (hF : Tbl p F) (hC : Tbl p C) (z : ∀ x h, (p : Int) ∣ Ss p n C x h) {x h : Nat} (hx : x < p) (ok : ∀ i, i < n → F.getD ((x + (i + 1) * h) % p) 0 = C.getD ((x + (i + 1) * h) % p) 0) : vt p n F x h = C.getD x 0 := by
  have e : ∀ G : List Int, Ss p n G x h = G.getD x 0 + sm n fun i => (rowL n).getD (i + 1) 0 * G.getD ((x + (i + 1) * h) % p) 0 := fun G => by
    unfold Ss
    rw [sm_split, row0, Nat.zero_mul, Nat.add_zero, Nat.mod_eq_of_lt hx, Int.one_mul]
  have es : (sm n fun i => (rowL n).getD (i + 1) 0 * F.getD ((x + (i + 1) * h) % p) 0) = sm n fun i => (rowL n).getD (i + 1) 0 * C.getD ((x + (i + 1) * h) % p) 0 := sm_congr fun i hi => by rw [ok i hi]
  have b := tbl_get hC hx
  obtain ⟨q, hq⟩ := z x h
  have e1 : F.getD x 0 - Ss p n F x h = C.getD x 0 + (p : Int) * (-q) := by
    have := e F
    have := e C
    rw [Int.mul_neg]
    omega
  unfold vt
  rw [e1, Int.add_mul_emod_self_left, Int.emod_eq_of_lt b.1 b.2]
theorem votes_near (hp : primeB p = true) (hn : n < p) (hF : Tbl p F) (hC : Tbl p C) (z : ∀ x h, (p : Int) ∣ Ss p n C x h) {x : Nat} (hx : x < p) : (p : Int) - n * sm p (dif F C) ≤ sm p (vh p n F x (C.getD x 0).toNat) := by
  have p0 : 0 < p := by omega
  have b := tbl_get hC hx
  have one : ∀ i, i < n → sm p (fun h => dif F C ((x + (i + 1) * h) % p)) = sm p (dif F C) := fun i hi =>
    sm_inj (inj_mul (cop_lt hp (by omega) (by omega)) x) (dif F C)
  have tot : sm p (fun h => 1 - sm n fun i => dif F C ((x + (i + 1) * h) % p)) = (p : Int) - n * sm p (dif F C) := by
    rw [sm_sub, sm_const, sm_swap, sm_congr one, sm_const]; omega
  rw [← tot]
  refine sm_le fun h hh => ?_
  have d0 : ∀ i, i < n → 0 ≤ dif F C ((x + (i + 1) * h) % p) := fun i _ => by rcases dif_bit F C ((x + (i + 1) * h) % p) with q | q <;> omega
  by_cases q : sm n (fun i => dif F C ((x + (i + 1) * h) % p)) = 0
  · have ok := sm_le_one_of d0 q
    have g := vt_good hF hC z hx (h := h) fun i hi => by
      have := ok i hi
      unfold dif at this
      split at this
      · assumption
      · omega
    rw [q]
    unfold vh
    rw [if_pos (by rw [g]; omega)]; omega
  · have := sm_nonneg d0
    have v0 : 0 ≤ vh p n F x (C.getD x 0).toNat h := by unfold vh; split <;> omega
    omega
theorem topV_near (hp : primeB p = true) (hn : n < p) (hF : Tbl p F) (hC : Tbl p C) (z : ∀ x h, (p : Int) ∣ Ss p n C x h) (w : 2 * (n * sm p (dif F C)) < (p : Int)) {x : Nat} (hx : x < p) : ((topV (cL p n F x p) : Nat) : Int) = C.getD x 0 := by
  have p0 : 0 < p := by omega
  have b := tbl_get hC hx
  have v := votes_near hp hn hF hC z hx
  have ne : cL p n F x p ≠ [] := fun q => by
    have := congrArg List.length q
    rw [cL_len] at this
    simp at this; omega
  have tl := topV_lt ne
  rw [cL_len] at tl
  obtain ⟨k, hk⟩ : ∃ k, k = (C.getD x 0).toNat := ⟨_, rfl⟩
  rw [← hk] at v
  have kp : k < p := by omega
  have g : ∀ {v : Nat}, v < p → (cL p n F x p).getD v 0 = sm p (vh p n F x v) := fun hv => cL_get hv
  have mx : (cL p n F x p).getD (topV (cL p n F x p)) 0 = maxL (cL p n F x p) := by
    rw [List.getD_eq_getElem?_getD, List.getElem?_eq_getElem (by rw [cL_len]; exact tl)]
    exact List.getElem_idxOf (by rw [cL_len]; exact tl)
  have le : (cL p n F x p).getD k 0 ≤ maxL (cL p n F x p) := (maxL_spec ne).2 _ (by
    rw [List.getD_eq_getElem?_getD, List.getElem?_eq_getElem (by rw [cL_len]; exact kp)]
    exact List.getElem_mem _)
  rw [← mx, g kp, g tl] at le
  have e : topV (cL p n F x p) = k := by
    refine Classical.byContradiction fun q => ?_
    have s := cL_sum p0 n F x
    have s2 : sm p (fun v => sm p (vh p n F x v)) = (p : Int) := by rw [← s]; unfold cL; rw [sm_list]
    have := sm_pair (f := fun v => sm p (vh p n F x v)) tl kp q (fun i _ => sm_nonneg fun h _ => by unfold vh; split <;> omega)
    rw [s2] at this
    have : sm p (vh p n F x (topV (cL p n F x p))) + sm p (vh p n F x k) ≤ (p : Int) := this
    omega
  rw [e]; omega
theorem wrong_count (F : List Int) (c : List Int) : (((List.range p).filter fun x : Nat => !decide (hor c (x : Int) % (p : Int) = F.getD x 0)).length : Int) = sm p (dif F (tab' p (hor c))) := by
  rw [sm_count]
  refine sm_congr fun x hx => ?_
  unfold dif
  rw [tab_get _ hx]
  by_cases q : hor c (x : Int) % (p : Int) = F.getD x 0
  · have e : (!decide (hor c (x : Int) % (p : Int) = F.getD x 0)) = false := by rw [decide_eq_true q]; rfl
    rw [e, if_pos q.symm, if_neg (by simp)]
  · have e : (!decide (hor c (x : Int) % (p : Int) = F.getD x 0)) = true := by rw [decide_eq_false q]; rfl
    rw [e, if_pos rfl, if_neg (fun z => q z.symm)]
/-- a map near a curve is put right -/
theorem close_near (hp : primeB p = true) (hm : p ≤ 101) {d : Nat} (hd : d ≤ 4) (hdp : d + 2 ≤ p) (hF : Tbl p F) {c : List Int} (lc : c.length = d + 1) (cm : ∀ y ∈ c, 0 ≤ y ∧ y < (p : Int)) (w : 2 * ((d : Int) + 1) * sm p (dif F (tab' p (hor c))) < (p : Int)) (h : VH) :
    m_close_curve [.int (p : Int), .int (d : Int), .tup (F.map PV.int)] h = .ok (.tup (c.map PV.int)) h := by
  have p0 : 0 < p := by omega
  obtain ⟨inv, hi⟩ := inverses_ex (by omega : 2 ≤ p) hm
  have hC := tab_tbl p0 (hor c)
  have z : ∀ x h, (p : Int) ∣ Ss p (d + 1) (tab' p (hor c)) x h := fun x h => by
    rw [Ss_Rr]; exact Rr_all ((isZ_iff p0 hC (d + 1)).mp (pol_gone p0 lc)) x
  have vl : (crvV p inv d F (d + 1)).length = d + 1 := by simp [crvV]
  have w2 : 2 * (((d + 1 : Nat) : Int) * sm p (dif F (tab' p (hor c)))) < (p : Int) := by
    have e : 2 * (((d + 1 : Nat) : Int) * sm p (dif F (tab' p (hor c)))) = 2 * ((d : Int) + 1) * sm p (dif F (tab' p (hor c))) := by push_cast; grind
    rw [e]; exact w
  have cs : (ctS p inv (crvV p inv d F (d + 1)) (d + 1)).1 = c := by
    have := ctS_is (vs := crvV p inv d F (d + 1)) hp (by omega) (fun a h0 h1 => (hi a h0 h1).1) (by rw [vl]; omega) (by rw [vl]; exact lc) cm fun x hx => by
      rw [vl] at hx
      have e : (crvV p inv d F (d + 1)).getD x 0 = ((topV (cL p (d + 1) F x p) : Nat) : Int) := by simp [crvV, List.getD_eq_getElem?_getD, hx]
      rw [e, topV_near hp (by omega) hF hC z w2 (by omega), tab_get _ (by omega)]
    rwa [vl] at this
  rw [close_curve_ok hp hm hd hdp hF hi h, cs, wrong_count, if_pos w]
end
end Pm
namespace Pm
open PySem PySem.Spec L2 PyProof.Rows
/-! ### so many places changed -/
section
theorem dif_set {p : Nat} (g f : List Int) (j : Nat) (v : Int) : sm p (dif (g.set j v) f) ≤ sm p (dif g f) + 1 := by
  have e : sm p (fun x => if x = j then (1 : Int) else 0) ≤ 1 := by
    by_cases q : j < p
    · rw [sm_one (a := j) q fun i _ z => if_neg z, if_pos rfl]; omega
    · rw [sm_zero fun i hi => if_neg (by omega)]; omega
  have l : sm p (dif (g.set j v) f) ≤ sm p (fun x => dif g f x + if x = j then (1 : Int) else 0) := sm_le fun x _ => by
    have d0 := dif_bit g f x
    by_cases q : x = j
    · rw [if_pos q]
      rcases dif_bit (g.set j v) f x with z | z <;> rcases d0 with w | w <;> omega
    · rw [if_neg q]
      have : dif (g.set j v) f x = dif g f x := by
        unfold dif
        have : (g.set j v).getD x 0 = g.getD x 0 := by
          rw [List.getD_eq_getElem?_getD, List.getElem?_set_ne (fun z => q z.symm), ← List.getD_eq_getElem?_getD]
        rw [this]
      omega
  rw [sm_add] at l
  omega
theorem turned_near {ds : List Int} {a : Nat} {p : Nat} (hp : 0 < p) (hm : p ≤ 101) {f : List Int} (hf : Tbl p f) {m : Nat} (hmm : m ≤ 1000) : ∃ f', Tbl p f' ∧ sm p (dif f' f) ≤ (m : Int) ∧ m__law_turned [.ref 0, .int (p : Int), .tup (f.map PV.int), .int (m : Int)] [handO ds a] = .ok (.tup (f'.map PV.int)) [handO ds (a + 2 * m)] := by
  have e0 : (0 : Int) < (p : Int) := by omega
  have lp : listP true (.tup (f.map PV.int)) [handO ds a] = .ok (.ref 1) [handO ds a, .lst (f.map PV.int)] := rfl
  have hr : ∀ h, srcRng [.int (m : Int)] h = .ok ⟨rngL 0 m, []⟩ h := fun h => by rw [srcRng1 (by omega), Int.toNat_natCast]
  suffices ∃ f', Tbl p f' ∧ sm p (dif f' f) ≤ (m : Int) ∧ ∃ x, forL [] (gSlot 4) (sAsg (eCall m__law_take (aCons (eVar 0) (aCons (eVar 1) aNil))) (gSubM (eVar 2) (eCall m__law_take (aCons (eVar 0) (aCons (eVar 1) aNil))))) (rngL 0 m) [some (.ref 0), some (.int (p : Int)), some (.ref 1), some (.int (m : Int)), none] [handO ds a, .lst (f.map PV.int)] = .nx [some (.ref 0), some (.int (p : Int)), some (.ref 1), some (.int (m : Int)), x] [handO ds (a + 2 * m), .lst (f'.map PV.int)] by
    obtain ⟨f', h1, h3, x, h2⟩ := this
    refine ⟨f', h1, h3, ?_⟩
    unfold m__law_turned
    rw [fnRun_go (σ := [some (.ref 0), some (.int (p : Int)), some (.tup (f.map PV.int)), some (.int (m : Int)), none]) _ _ _ _ rfl]
    simp only [pmS, lp, hr]
    rw [h2]
    have tp : tupleP (.ref 1) [handO ds (a + 2 * m), .lst (f'.map PV.int)] = .ok (.tup (f'.map PV.int)) [handO ds (a + 2 * m), .lst (f'.map PV.int)] := rfl
    simp only [pmS, tp]
    exact gc_stA (h := [handO ds a]) (j := [.lst _]) (i := 0) (handO_closed _ _) ((closedV_tup _).mpr (closedVs_ints _))
  refine for_go (R := fun r => ∃ f', Tbl p f' ∧ sm p (dif f' f) ≤ (m : Int) ∧ ∃ x, r = .nx [some (.ref 0), some (.int (p : Int)), some (.ref 1), some (.int (m : Int)), x] [handO ds (a + 2 * m), .lst (f'.map PV.int)]) (fun i σ h => ∃ g, Tbl p g ∧ sm p (dif g f) ≤ (i : Int) ∧ ∃ x, σ = [some (.ref 0), some (.int (p : Int)), some (.ref 1), some (.int (m : Int)), x] ∧ h = [handO ds (a + 2 * i), .lst (g.map PV.int)]) ⟨f, hf, by rw [sm_zero fun x _ => by unfold dif; rw [if_pos rfl]]; omega, none, rfl, rfl⟩ ?_ ?_
  · rintro i y σ h hy ⟨g, hg, hw, x, rfl, rfl⟩
    refine ⟨by simp, _, _, rfl, ?_⟩
    have t1 := tk_pos ds (a + 2 * i + 1) e0
    have t2 := tk_lt ds (a + 2 * i + 1) e0
    have u1 := tk_pos ds (a + 2 * i) e0
    have u2 := tk_lt ds (a + 2 * i) e0
    have k0 : m__law_take [.ref 0, .int (p : Int)] [handO ds (a + 2 * i), .lst (g.map PV.int)] = .ok (.int (tk ds (a + 2 * i) (p : Int))) [handO ds (a + 2 * i + 1), .lst (g.map PV.int)] := take_eq rfl e0
    have k1 : m__law_take [.ref 0, .int (p : Int)] [handO ds (a + 2 * i + 1), .lst (g.map PV.int)] = .ok (.int (tk ds (a + 2 * i + 1) (p : Int))) [handO ds (a + 2 * (i + 1)), .lst (g.map PV.int)] := take_eq rfl e0
    have st : setP (.ref 1) (.int (tk ds (a + 2 * i + 1) (p : Int))) (.int (tk ds (a + 2 * i) (p : Int))) [handO ds (a + 2 * (i + 1)), .lst (g.map PV.int)] = .ok () [handO ds (a + 2 * (i + 1)), .lst ((g.set (tk ds (a + 2 * i + 1) (p : Int)).toNat (tk ds (a + 2 * i) (p : Int))).map PV.int)] := by
      rw [setP_ok (i := 1) rfl (ixN_pos t1 (by rw [List.length_map, hg.1]; exact t2)), List.map_set]; rfl
    simp only [pmS, k0, k1, st, Turn'_nx]
    refine ⟨g.set (tk ds (a + 2 * i + 1) (p : Int)).toNat (tk ds (a + 2 * i) (p : Int)), ⟨by rw [List.length_set]; exact hg.1, fun x hx => ?_⟩, ?_, _, rfl, rfl⟩
    rotate_left
    · have := dif_set (p := p) g f (tk ds (a + 2 * i + 1) (p : Int)).toNat (tk ds (a + 2 * i) (p : Int))
      omega
    rcases List.mem_or_eq_of_mem_set hx with q | q
    · exact hg.2 x q
    · rw [q]; exact ⟨u1, u2⟩
  · rintro σ h ⟨g, hg, hw, x, rfl, rfl⟩
    refine ⟨by simp, g, hg, by simpa [rngL] using hw, x, ?_⟩
    simp [rngL]
end
end Pm
namespace Pm
open PySem PySem.Spec L2 PyProof.Rows
/-! ### the law's near curves -/
section
variable {p d : Nat} {F : List Int}
def rowT (r : List Int) : PV := .tup (r.map PV.int)
def moreR (p : Nat) (r : List Int) : List (List Int) := (List.range p).map fun v : Nat => r ++ [(v : Int)]
def rowsC (p : Nat) : Nat → List (List Int)
  | 0 => [[]]
  | k + 1 => (rowsC p k).flatMap (moreR p)
theorem mem_rowsC : ∀ {k : Nat} {r : List Int}, r ∈ rowsC p k ↔ r.length = k ∧ ∀ y ∈ r, 0 ≤ y ∧ y < (p : Int)
  | 0, r => by
    simp only [rowsC, List.mem_singleton]
    constructor
    · rintro rfl; exact ⟨rfl, fun y hy => absurd hy List.not_mem_nil⟩
    · rintro ⟨h, _⟩; exact List.eq_nil_of_length_eq_zero h
  | k + 1, r => by
    simp only [rowsC, List.mem_flatMap, moreR, List.mem_map, List.mem_range]
    constructor
    · rintro ⟨s, hs, v, hv, rfl⟩
      obtain ⟨a, b⟩ := mem_rowsC.mp hs
      refine ⟨by simp [a], fun y hy => ?_⟩
      rcases List.mem_append.mp hy with q | q
      · exact b y q
      · rw [List.mem_singleton.mp q]; omega
    · rintro ⟨l, b⟩
      have ne : r ≠ [] := fun z => by rw [z] at l; simp at l
      have g := b _ (List.getLast_mem ne)
      refine ⟨r.dropLast, mem_rowsC.mpr ⟨by simp [l], fun y hy => b y (List.dropLast_subset r hy)⟩, (r.getLast ne).toNat, by omega, ?_⟩
      rw [Int.toNat_of_nonneg g.1]
      exact List.dropLast_concat_getLast ne
theorem rowsC_len : ∀ k, (rowsC p k).length = p ^ k
  | 0 => rfl
  | k + 1 => by
    have ih := rowsC_len k
    show ((rowsC p k).flatMap (moreR p)).length = _
    rw [List.length_flatMap]
    have : (rowsC p k).map (fun r => (moreR p r).length) = List.replicate (p ^ k) p := by
      rw [← ih]
      refine List.eq_replicate_iff.mpr ⟨by simp, fun y hy => ?_⟩
      obtain ⟨r, _, rfl⟩ := List.mem_map.mp hy
      simp [moreR]
    rw [this, List.sum_replicate_nat, Nat.pow_succ]
theorem rowsC_nodup : ∀ k, (rowsC p k).Nodup
  | 0 => by simp [rowsC]
  | k + 1 => by
    have ih := rowsC_nodup k
    show ((rowsC p k).flatMap (moreR p)).Nodup
    unfold List.Nodup
    rw [List.pairwise_flatMap]
    refine ⟨fun r _ => ?_, ih.imp fun {a b} ne x hx y hy e => ?_⟩
    · unfold moreR
      rw [List.pairwise_map]
      exact List.nodup_range.imp fun {a b} ne e => ne (by
        have := List.append_cancel_left e
        simp at this
        omega)
    · obtain ⟨u, _, rfl⟩ := List.mem_map.mp hx
      obtain ⟨v, _, rfl⟩ := List.mem_map.mp hy
      exact ne (List.append_inj_left' e (by simp))
/-- the wrong places of a curve -/
def wrC (p : Nat) (F r : List Int) : Int := sm p (dif F (tab' p (hor r)))
def nearC (p d : Nat) (F : List Int) : List (List Int) := (rowsC p (d + 1)).filter fun r => decide (2 * ((d : Int) + 1) * wrC p F r < (p : Int))
theorem law_near_ok (p0 : 0 < p) (h7 : p ≤ 7) (hd : d ≤ 1) (hF : Tbl p F) (h : VH) : m__law_near [.int (p : Int), .int (d : Int), .tup (F.map PV.int)] h = .ok (.lst ((nearC p d F).map rowT)) h := by
  have sL : ∀ (L : List PV) h, srcSeq (.lst L) h = .ok ⟨L, []⟩ h := fun _ _ => rfl
  have rp : ∀ h, srcRng [.int (p : Int)] h = .ok ⟨rngL 0 p, []⟩ h := fun h => srcRngN (n := p) h (by omega)
  have rd : ∀ h, srcRng [.int ((d : Int) + 1)] h = .ok ⟨rngL 0 (d + 1), []⟩ h := fun h => by
    have := srcRngN (n := d + 1) h (by omega)
    rwa [show ((d + 1 : Nat) : Int) = (d : Int) + 1 by omega] at this
  have small : ∀ k, k ≤ 2 → (rowsC p k).length ≤ 49 := fun k hk => by
    rw [rowsC_len]
    exact Nat.le_trans (Nat.pow_le_pow_left h7 k) (Nat.le_trans (Nat.pow_le_pow_right (by omega) hk) (by decide))
  unfold m__law_near
  rw [fnRun_go (σ := [some (.int (p : Int)), some (.int (d : Int)), some (.tup (F.map PV.int)), none, none, none, none, none, none, none, none, none]) _ _ _ _ rfl]
  simp only [pmS, pmT, pmU, pmV, if_true, if_false, reduceCtorEq, Bool.false_eq_true, decide_true, decide_false, mkL_f, rd]
  refine for_bind (fun i σ h' => h' = h ∧ ∃ a4 a5 a6, σ = [some (.int (p : Int)), some (.int (d : Int)), some (.tup (F.map PV.int)), some (.lst ((rowsC p i).map rowT)), a4, a5, a6, none, none, none, none, none]) ⟨rfl, none, none, none, rfl⟩ ?_ ?_
  · rintro i v σ h hq ⟨rfl, a4, a5, a6, rfl⟩
    obtain ⟨hi, rfl⟩ := rng_get hq
    refine ⟨by simp, _, _, rfl, ?_⟩
    have s1 := small i (by omega)
    have s2 := small (i + 1) (by omega)
    simp only [pmS, pmT, pmU, pmV, if_true, if_false, reduceCtorEq, Bool.false_eq_true, decide_true, decide_false, mkL_f, sL]
    refine for_go (R := fun r => Turn' _ _ (r.bind _)) (fun k σ h' => h' = h ∧ ∃ a6, σ = [some (.int (p : Int)), some (.int (d : Int)), some (.tup (F.map PV.int)), some (.lst ((rowsC p i).map rowT)), some (.int (i : Int)), some (.lst ((((rowsC p i).take k).flatMap (moreR p)).map rowT)), a6, none, none, none, none, none]) ⟨rfl, _, rfl⟩ ?_ ?_
    · rintro k v σ h' hq ⟨rfl, a6, rfl⟩
      rw [List.getElem?_map] at hq
      obtain ⟨r, hr, rfl⟩ := Option.map_eq_some_iff.mp hq
      have kl := (List.getElem?_eq_some_iff.mp hr).1
      refine ⟨by simp, _, _, rfl, ?_⟩
      have rl : r.length ≤ 2 := by
        have := (mem_rowsC.mp (List.mem_of_getElem? hr)).1
        omega
      have ad : ∀ (v : Nat) h, addP false (rowT r) (.tup [.int (v : Int)]) h = .ok (rowT (r ++ [(v : Int)])) h := fun v h => by
        unfold rowT
        rw [addP_tt h (by simp; omega)]; simp
      simp only [pmS, pmT, pmU, pmV, if_true, if_false, reduceCtorEq, Bool.false_eq_true, decide_true, decide_false, rp]
      rw [comp_rngF (by simp) (fun _ => true) (fun v : Nat => rowT (r ++ [(v : Int)])) (fun v hv => ⟨_, rfl, by simp only [pmS, pmT, pmU, pmV, if_true, if_false, reduceCtorEq, Bool.false_eq_true, decide_true, decide_false, wipeL], fun _ => by simp only [pmS, pmT, pmU, pmV, if_true, if_false, reduceCtorEq, Bool.false_eq_true, decide_true, decide_false, wipeL, ad]⟩) (by omega)]
      have em : ((List.range p).filter fun _ => true).map (fun v : Nat => rowT (r ++ [(v : Int)])) = (moreR p r).map rowT := by
        rw [List.filter_eq_self.mpr (by simp)]; simp [moreR]
      have tk : (rowsC p i).take (k + 1) = (rowsC p i).take k ++ [r] := by rw [List.take_add_one, hr]; rfl
      have fm : ((rowsC p i).take (k + 1)).flatMap (moreR p) = ((rowsC p i).take k).flatMap (moreR p) ++ moreR p r := by rw [tk]; simp
      have a1 : ∀ h, addP false (.lst ((((rowsC p i).take k).flatMap (moreR p)).map rowT)) (.lst ((moreR p r).map rowT)) h = .ok (.lst ((((rowsC p i).take (k + 1)).flatMap (moreR p)).map rowT)) h := fun h => by
        have ml : (moreR p r).length = p := by simp [moreR]
        have le : (((rowsC p i).take k).flatMap (moreR p)).length ≤ 49 * 7 := by
          rw [List.length_flatMap]
          have : ((rowsC p i).take k).map (fun r => (moreR p r).length) = List.replicate ((rowsC p i).take k).length p := List.eq_replicate_iff.mpr ⟨by simp, fun y hy => by
            obtain ⟨r, _, rfl⟩ := List.mem_map.mp hy
            simp [moreR]⟩
          rw [this, List.sum_replicate_nat]
          exact Nat.mul_le_mul (by rw [List.length_take]; omega) h7
        rw [addP_ll h (by rw [List.length_map, List.length_map, ml]; omega), fm, List.map_append]
      simp only [pmS, pmT, pmU, pmV, if_true, if_false, reduceCtorEq, Bool.false_eq_true, decide_true, decide_false, mkL_f, em, a1, Turn'_nx]
      exact ⟨trivial, _, rfl⟩
    · rintro σ h' ⟨rfl, a6, rfl⟩
      refine ⟨by simp, ?_⟩
      rw [List.length_map, List.take_length]
      simp only [pmS, pmT, pmU, pmV, if_true, if_false, reduceCtorEq, Bool.false_eq_true, decide_true, decide_false, Turn'_nx]
      exact ⟨trivial, _, _, _, rfl⟩
  · rintro σ h ⟨rfl, a4, a5, a6, rfl⟩
    rw [rng_len]
    refine ⟨by simp, ?_⟩
    have s2 := small (d + 1) (by omega)
    simp only [pmS, pmT, pmU, pmV, if_true, if_false, reduceCtorEq, Bool.false_eq_true, decide_true, decide_false, mkL_t, sL]
    have lm : ∀ (f : PV → List PV → VH → Res PV) (ms : AM) (σ : LS) (L : List PV), lstMt (.ref h.length) ms σ (h ++ [.lst L]) f = (ms σ (h ++ [.lst L])).bind fun ys h1 => f (.ref h.length) ys h1 := fun f ms σ L => lstMt_ok (lstOf_ref (at_end _ _))
    refine for_go (R := fun r => fin h (r.bind _) = _) (fun k σ h' => h' = h ++ [.lst ((((rowsC p (d + 1)).take k).filter fun r => decide (2 * ((d : Int) + 1) * wrC p F r < (p : Int))).map rowT)] ∧ ∃ a9 a10, σ = [some (.int (p : Int)), some (.int (d : Int)), some (.tup (F.map PV.int)), some (.lst ((rowsC p (d + 1)).map rowT)), a4, a5, a6, none, some (.ref h.length), a9, a10, none]) ⟨rfl, none, none, rfl⟩ ?_ ?_
    · rintro k v σ h' hq ⟨rfl, a9, a10, rfl⟩
      rw [List.getElem?_map] at hq
      obtain ⟨r, hr, rfl⟩ := Option.map_eq_some_iff.mp hq
      refine ⟨by simp, _, _, rfl, ?_⟩
      have rl : r.length ≤ 2 := by
        have := (mem_rowsC.mp (List.mem_of_getElem? hr)).1
        omega
      have lv : ∀ x, x < p → ∀ h, m__law_value [.int (p : Int), rowT r, .int (x : Int)] h = .ok (.int (hor r x % (p : Int))) h := fun x hx h => value_eq p0 (by omega) r (by omega) x hx h
      simp only [pmS, pmT, pmU, pmV, if_true, if_false, reduceCtorEq, Bool.false_eq_true, decide_true, decide_false, rp]
      rw [comp_rngF (by simp) (fun x : Nat => !decide (hor r (x : Int) % (p : Int) = F.getD x 0)) (fun x : Nat => .int (x : Int)) (fun x hx => ⟨_, rfl, by
        have g1 : ∀ h, ixP (.tup (F.map PV.int)) (.int (x : Int)) h = .ok (.int (F.getD x 0)) h := fun h => ixN_tup h (by rw [hF.1]; exact hx)
        simp only [pmS, pmT, pmU, pmV, if_true, if_false, reduceCtorEq, Bool.false_eq_true, decide_true, decide_false, wipeL, lv x hx, g1], fun _ => by simp only [pmS, pmT, pmU, pmV, if_true, if_false, reduceCtorEq, Bool.false_eq_true, decide_true, decide_false, wipeL]⟩) (by omega)]
      have wc : ((((List.range p).filter fun x : Nat => !decide (hor r (x : Int) % (p : Int) = F.getD x 0)).map fun x : Nat => PV.int (x : Int)).length : Int) = wrC p F r := by rw [List.length_map]; exact wrong_count F r
      have wb : 0 ≤ wrC p F r ∧ wrC p F r ≤ (p : Int) := by
        rw [← wc, List.length_map]
        have := List.length_filter_le (fun x : Nat => !decide (hor r (x : Int) % (p : Int) = F.getD x 0)) (List.range p)
        rw [List.length_range] at this
        omega
      have m1 : ∀ h, mulP false (.int 2) (.int ((d : Int) + 1)) h = .ok (.int (2 * ((d : Int) + 1))) h := fun h => mulP_l (by omega) (by omega)
      have m2 : ∀ h, mulP false (.int (2 * ((d : Int) + 1))) (.int (wrC p F r)) h = .ok (.int (2 * ((d : Int) + 1) * wrC p F r)) h := fun h => mulP_l (by omega) (by omega)
      have tk : (rowsC p (d + 1)).take (k + 1) = (rowsC p (d + 1)).take k ++ [r] := by rw [List.take_add_one, hr]; rfl
      have em : 2 * ((d : Int) + 1) * wrC p F r < (p : Int) ∨ ¬ 2 * ((d : Int) + 1) * wrC p F r < (p : Int) := Classical.em _
      rw [tk, List.filter_append, List.map_append]
      refine em.elim ?c1 ?c2
      · intro q
        have e1 : ([r].filter fun r => decide (2 * ((d : Int) + 1) * wrC p F r < (p : Int))).map rowT = [rowT r] := by simp [q]
        rw [e1]
        have ap := append_end (H := h) (xs := (((rowsC p (d + 1)).take k).filter fun r => decide (2 * ((d : Int) + 1) * wrC p F r < (p : Int))).map rowT) (y := rowT r) (by
          rw [List.length_map]
          have := List.length_filter_le (fun r => decide (2 * ((d : Int) + 1) * wrC p F r < (p : Int))) ((rowsC p (d + 1)).take k)
          rw [List.length_take] at this
          omega)
        simp only [pmS, pmT, pmU, pmV, if_true, if_false, reduceCtorEq, Bool.false_eq_true, decide_true, decide_false, mkL_f, wc, m1, m2, eq_true q, lm, ap, Turn'_nx]
        exact ⟨trivial, _, _, rfl⟩
      · intro q
        have e1 : ([r].filter fun r => decide (2 * ((d : Int) + 1) * wrC p F r < (p : Int))).map rowT = [] := by simp [q]
        rw [e1, List.append_nil]
        simp only [pmS, pmT, pmU, pmV, if_true, if_false, reduceCtorEq, Bool.false_eq_true, decide_true, decide_false, mkL_f, wc, m1, m2, eq_false q, Turn'_nx]
        exact ⟨trivial, _, _, rfl⟩
    · rintro σ h' ⟨rfl, a9, a10, rfl⟩
      refine ⟨by simp, ?_⟩
      rw [List.length_map, List.take_length]
      simp only [pmS, pmT, pmU, pmV, if_true, if_false, reduceCtorEq, Bool.false_eq_true, decide_true, decide_false, frzP_last]
      exact gc_app ((closedV_lst _).mpr (closedVs_iff.mpr fun y hy => by
        obtain ⟨r, _, rfl⟩ := List.mem_map.mp hy
        exact (closedV_tup _).mpr (closedVs_ints _)))
end
end Pm
namespace Pm
open PySem PySem.Spec L2 PyProof.Rows
theorem primes_ok2 : ∀ q ∈ primes, q ≤ 101 → 2 ≤ q ∧ primeB q.toNat = true ∧ frob q.toNat = true := by decide +kernel
theorem prime_eqM {ds : List Int} {a : Nat} {M : Int} (hM : 2 ≤ M ∧ M ≤ 101) : ∃ q : Nat, 2 ≤ q ∧ (q : Int) ≤ M ∧ primeB q = true ∧ frob q = true ∧ m__law_prime [.ref 0, .int M] [handO ds a] = .ok (.int (q : Int)) [handO ds (a + 1)] := by
  have hl : 0 < (primes.filter fun x => decide (x ≤ M)).length := List.length_pos_of_mem (a := 2) (by rw [List.mem_filter]; exact ⟨by decide, decide_eq_true hM.1⟩)
  have hl' : (0 : Int) < ((primes.filter fun x => decide (x ≤ M)).length : Int) := by omega
  have t1 := tk_pos ds a hl'
  have t2 := tk_lt ds a hl'
  obtain ⟨i, hi⟩ := Int.eq_ofNat_of_zero_le t1
  have hi2 : i < (primes.filter fun x => decide (x ≤ M)).length := by omega
  have hm := List.getElem_mem hi2
  rw [List.mem_filter, decide_eq_true_eq] at hm
  have hM61 : M ≤ 101 := by omega
  obtain ⟨p1, p2, p3⟩ := primes_ok2 _ hm.1 (by omega)
  refine ⟨((primes.filter fun x => decide (x ≤ M))[i]).toNat, by omega, by omega, p2, p3, ?_⟩
  unfold m__law_prime
  rw [fnRun_go (σ := [some (.ref 0), some (.int M), none, none]) _ _ _ _ rfl]
  have hc := compL_filt (ck := []) (ws := [3]) (gm := gSlot 3) (mt := tVal (eBin leP (eVar 3) (eVar 1))) (me := eVar 3) (σ := [some (.ref 0), some (.int M), some (.lst (primes.map PV.int)), none]) (p := fun x => match x with | .int i => decide (i ≤ M) | _ => false) (f := fun x => x) (h := [handO ds a]) (by simp) (primes.map PV.int) []
    (fun x hx => by
      obtain ⟨y, _, rfl⟩ := List.mem_map.mp hx
      exact ⟨_, rfl, by simp only [pmS, wipeL], fun _ => by simp only [pmS, wipeL]⟩) (by decide)
  have hf : (primes.map PV.int).filter (fun x => match x with | .int i => decide (i ≤ M) | _ => false) = (primes.filter fun x => decide (x ≤ M)).map PV.int := by
    rw [List.filter_map]; rfl
  rw [hf, List.nil_append, List.map_id'] at hc
  have tt := take0 (ds := ds) (a := a) hl'
  rw [hi] at tt
  have e : (((primes.filter fun x => decide (x ≤ M))[i]).toNat : Int) = (primes.filter fun x => decide (x ≤ M))[i] := by omega
  rw [e]
  have g : ixP (.lst ((primes.filter fun x => decide (x ≤ M)).map PV.int)) (.int (i : Int)) [handO ds (a + 1)] = .ok (.int ((primes.filter fun x => decide (x ≤ M))[i])) [handO ds (a + 1)] := ixP_lst (by omega) (by simp [hi2])
  revert g tt hc
  generalize (primes.filter fun x => decide (x ≤ M))[i] = q
  generalize (primes.filter fun x => decide (x ≤ M)) = L
  intro hc tt g
  simp only [primes, List.map_cons, List.map_nil] at hc
  simp only [pmS, hc, List.length_map, tt, g]
  exact gc_st (h := [handO ds a]) (i := 0) (handO_closed _ _) (by simp)
section
variable {p d : Nat} {F : List Int} {ds : List Int} {a : Nat}
/-- what the law finds is what close_curve gives -/
theorem small_end (hp : primeB p = true) (hm : p ≤ 101) (hd : d ≤ 4) (hdp : d + 2 ≤ p) (hF : Tbl p F) : (nearC p d F = [] ∧ ∀ h, m_close_curve [.int (p : Int), .int (d : Int), .tup (F.map PV.int)] h = .ok .non h) ∨ ∃ c, nearC p d F = [c] ∧ (∀ y ∈ c, 0 ≤ y ∧ y < (p : Int)) ∧ c.length = d + 1 ∧ ∀ h, m_close_curve [.int (p : Int), .int (d : Int), .tup (F.map PV.int)] h = .ok (.tup (c.map PV.int)) h := by
  have p0 : 0 < p := by omega
  have mem : ∀ c ∈ nearC p d F, c.length = d + 1 ∧ (∀ y ∈ c, 0 ≤ y ∧ y < (p : Int)) ∧ ∀ h, m_close_curve [.int (p : Int), .int (d : Int), .tup (F.map PV.int)] h = .ok (.tup (c.map PV.int)) h := fun c hc => by
    obtain ⟨h1, h2⟩ := List.mem_filter.mp hc
    obtain ⟨l, b⟩ := mem_rowsC.mp h1
    exact ⟨l, b, fun h => close_near hp hm hd hdp hF l b (of_decide_eq_true h2) h⟩
  cases en : nearC p d F with
  | nil =>
    refine .inl ⟨rfl, fun h => ?_⟩
    obtain ⟨inv, hi⟩ := inverses_ex (by omega : 2 ≤ p) hm
    have vl : (crvV p inv d F (d + 1)).length = d + 1 := by simp [crvV]
    obtain ⟨l1, _, m1, _⟩ := ctS_ok (by omega : 2 ≤ p) (inv := inv) (vs := crvV p inv d F (d + 1)) (d + 1)
    rw [vl] at l1
    have e := close_curve_ok hp hm hd hdp hF hi h
    rw [wrong_count] at e
    by_cases q : 2 * ((d : Int) + 1) * sm p (dif F (tab' p (hor (ctS p inv (crvV p inv d F (d + 1)) (d + 1)).1))) < (p : Int)
    · have : (ctS p inv (crvV p inv d F (d + 1)) (d + 1)).1 ∈ nearC p d F := List.mem_filter.mpr ⟨mem_rowsC.mpr ⟨l1, m1⟩, decide_eq_true q⟩
      rw [en] at this
      exact absurd this List.not_mem_nil
    · rw [if_neg q] at e; exact e
  | cons c r =>
    obtain ⟨l, b, e⟩ := mem c (by rw [en]; simp)
    cases r with
    | nil => exact .inr ⟨c, rfl, b, l, e⟩
    | cons c2 r =>
      obtain ⟨_, _, e2⟩ := mem c2 (by rw [en]; simp)
      have nd : (nearC p d F).Nodup := List.Nodup.sublist List.filter_sublist (rowsC_nodup (d + 1))
      have same : c = c2 := by
        have q := (e []).symm.trans (e2 [])
        injection q with q _
        injection q with q
        exact (List.map_inj_right (fun a b z => by injection z)).mp q
      rw [en, same] at nd
      simp at nd
end
end Pm
namespace Pm
open PySem PySem.Spec L2 PyProof.Rows
section
variable {ds : List Int} {a : Nat}
noncomputable def restS : SM := (sCons (sSet 6 (eCall m__law_near (aCons (eVar 1) (aCons (eVar 2) (aCons (eVar 3) aNil)))))
    (sCons (sSet 7 (eC .non))
    (sCons (sIf (tVal (eBin gtP (eCall (one lenP) (aCons (eVar 6) aNil)) (eC (.int 0)))) (sSet 7 (eBin ixP (eVar 6) (eC (.int 0)))) sNil)
    (sRet (eAndM (eBin ltP (eCall (one lenP) (aCons (eVar 6) aNil)) (eC (.int 2))) (eBin eqP (eCall (one reprP) (aCons (eCall m_close_curve (aCons (eVar 1) (aCons (eVar 2) (aCons (eVar 3) aNil)))) aNil)) (eCall (one reprP) (aCons (eVar 7) aNil))))))))
theorem nat64 {x : Int} {p : Nat} (hm : p ≤ 101) (h : 0 ≤ x ∧ x < (p : Int)) : x.natAbs < 2 ^ 64 := by
  have q : (2 : Nat) ^ 64 = 18446744073709551616 := by decide
  omega
theorem restS_ok {p d : Nat} {F : List Int} (hp : primeB p = true) (h7 : p ≤ 7) (hd : d ≤ 1) (hdp : d + 2 ≤ p) (hF : Tbl p F) (a4 a5 : Option PV) (h : VH) : restS [some (.ref 0), some (.int (p : Int)), some (.int (d : Int)), some (.tup (F.map PV.int)), a4, a5, none, none] h = .rt (.bl true) h := by
  have ln := fun h => law_near_ok (by omega) h7 hd hF h
  unfold restS
  rcases small_end hp (by omega) (by omega : d ≤ 4) hdp hF with ⟨en, cc⟩ | ⟨c, en, cb, cl, cc⟩
  · have rn : ∀ h, reprP .non h = .ok (.str (PyData.shown .none)) h := fun h => reprP_ok (d := .none) rfl ⟨rfl, rfl, by decide⟩
    have c0 : ((0 : Int) < (([] : List PV).length : Int)) = False := eq_false (by simp)
    have c2 : ((([] : List PV).length : Int) < 2) = True := eq_true (by simp)
    simp only [pmS, pmT, pmU, pmV, if_true, if_false, reduceCtorEq, Bool.false_eq_true, decide_true, decide_false, ln, en, List.map_nil, gt_iff_lt, c0, c2, cc, rn, eqP_str]
  · have rc : ∀ h, reprP (.tup (c.map PV.int)) h = .ok (.str (PyData.shown (.tuple (c.map .int)))) h := fun h => repr_tup (fun x hx => nat64 (by omega) (cb x hx)) (by omega)
    have m1 : [c].map rowT = [PV.tup (c.map PV.int)] := rfl
    have c0 : ((0 : Int) < (([PV.tup (c.map PV.int)] : List PV).length : Int)) = True := eq_true (by simp)
    have c2 : ((([PV.tup (c.map PV.int)] : List PV).length : Int) < 2) = True := eq_true (by simp)
    have i0 : ∀ h, ixP (.lst [PV.tup (c.map PV.int)]) (.int 0) h = .ok (PV.tup (c.map PV.int)) h := fun _ => rfl
    simp only [pmS, pmT, pmU, pmV, if_true, if_false, reduceCtorEq, Bool.false_eq_true, decide_true, decide_false, ln, en, m1, gt_iff_lt, c0, c2, i0, cc, rc, eqP_str]
theorem small_ok : ∃ b, m__law_is_small [.ref 0] [handO ds a] = .ok (.bl true) [handO ds b] := by
  obtain ⟨p, p2, pM, hp, fb, lp⟩ := prime_eqM (ds := ds) (a := a) (M := 7) (by omega)
  have h7 : p ≤ 7 := by omega
  have p0 : 0 < p := by omega
  have pI : (0 : Int) < (p : Int) := by omega
  obtain ⟨B, hB, b1, b2, bp⟩ : ∃ B : Nat, (if (p : Int) - 1 < 2 then (p : Int) - 1 else 2) = (B : Int) ∧ 1 ≤ B ∧ B ≤ 2 ∧ B ≤ p - 1 := by
    by_cases q : (p : Int) - 1 < 2
    · rw [if_pos q]; exact ⟨p - 1, by omega, by omega, by omega, by omega⟩
    · rw [if_neg q]; exact ⟨2, by omega, by omega, by omega, by omega⟩
  obtain ⟨d, hd, ed⟩ := tk_nat ds (a + 1) (m := B) (by omega)
  have td : m__law_take [.ref 0, .int (B : Int)] [handO ds (a + 1)] = .ok (.int (d : Int)) [handO ds (a + 1 + 1)] := by rw [← ed]; exact take0 (by omega)
  have rp : ∀ h, srcRng [.int (p : Int)] h = .ok ⟨rngL 0 p, []⟩ h := fun h => srcRngN (n := p) h (by omega)
  obtain ⟨A, hA⟩ : ∃ A, A = tks ds (a + 1 + 1) (p : Int) p := ⟨_, rfl⟩
  have TA : Tbl p A := by rw [hA]; exact ⟨by simp [tks], tks_mem pI⟩
  have c1 := tks_comp (ds := ds) (a := a + 1 + 1) (n := p) pI (by omega) (σ := [some (.ref 0), some (.int (p : Int)), some (.int (d : Int)), none, none, none, none, none]) (ws := [4]) (gm := gSlot 4) (me := eCall m__law_take (aCons (eVar 0) (aCons (eVar 1) aNil))) fun x b => ⟨_, rfl, by simp only [pmS, pmT, pmU, pmV, if_true, if_false, reduceCtorEq, Bool.false_eq_true, decide_true, decide_false, wipeL, take0 pI]⟩
  rw [← hA] at c1
  have tm : ∀ (L : List PV) h, tupleP (.lst L) h = .ok (.tup L) h := fun _ _ => rfl
  obtain ⟨a2, ha2⟩ : ∃ b, b = a + 1 + 1 + p := ⟨_, rfl⟩
  rw [← ha2] at c1
  have t2 := take0 (ds := ds) (a := a2) (many := 2) (by omega)
  obtain ⟨R, hR⟩ : ∃ R : SM, R = restS := ⟨_, rfl⟩
  unfold m__law_is_small
  rw [fnRun_go (σ := [some (.ref 0), none, none, none, none, none, none, none]) _ _ _ _ rfl]
  rw [show ((sCons (sSet 6 (eCall m__law_near (aCons (eVar 1) (aCons (eVar 2) (aCons (eVar 3) aNil)))))
    (sCons (sSet 7 (eC .non))
    (sCons (sIf (tVal (eBin gtP (eCall (one lenP) (aCons (eVar 6) aNil)) (eC (.int 0)))) (sSet 7 (eBin ixP (eVar 6) (eC (.int 0)))) sNil)
    (sRet (eAndM (eBin ltP (eCall (one lenP) (aCons (eVar 6) aNil)) (eC (.int 2))) (eBin eqP (eCall (one reprP) (aCons (eCall m_close_curve (aCons (eVar 1) (aCons (eVar 2) (aCons (eVar 3) aNil)))) aNil)) (eCall (one reprP) (aCons (eVar 7) aNil))))))))) = restS from rfl, ← hR]
  rcases tk2 ds a2 with e | e
  · rw [e] at t2
    have lc := curve_eq (ds := ds) (a := a2 + 1) (d := d) pI (by omega)
    obtain ⟨c, hc⟩ : ∃ c, c = tks ds (a2 + 1) (p : Int) (d + 1) := ⟨_, rfl⟩
    rw [← hc] at lc
    have cl : c.length = d + 1 := by rw [hc]; simp [tks]
    obtain ⟨a3, ha3⟩ : ∃ b, b = a2 + 1 + (d + 1) := ⟨_, rfl⟩
    rw [← ha3] at lc
    have TC := tab_tbl p0 (hor c)
    obtain ⟨m, hm3, em⟩ := tk_nat ds a3 (m := 3) (by omega)
    have t3 : m__law_take [.ref 0, .int 3] [handO ds a3] = .ok (.int (m : Int)) [handO ds (a3 + 1)] := by rw [← em]; exact take0 (by omega)
    obtain ⟨F, hF, _, lt⟩ := turned_near (ds := ds) (a := a3 + 1) p0 (by omega) TC (m := m) (by omega)
    have re := restS_ok (F := F) hp h7 (by omega : d ≤ 1) (by omega) hF none (some (.tup (c.map PV.int))) [handO ds (a3 + 1 + 2 * m)]
    rw [← hR] at re
    refine ⟨a3 + 1 + 2 * m, ?_⟩
    simp only [pmS, pmT, pmU, pmV, if_true, if_false, reduceCtorEq, Bool.false_eq_true, decide_true, decide_false, lp, hB, td, rp, c1, mkL_f, tm, t2, lc]
    rw [comp_rngF (by simp) (fun _ => true) (fun x : Nat => .int (hor c (x : Int) % (p : Int))) (fun x hx => ⟨_, rfl, by simp only [pmS, pmT, pmU, pmV, if_true, if_false, reduceCtorEq, Bool.false_eq_true, decide_true, decide_false, wipeL], fun _ => by simp only [pmS, pmT, pmU, pmV, if_true, if_false, reduceCtorEq, Bool.false_eq_true, decide_true, decide_false, wipeL, value_eq p0 (by omega) c (by omega) x hx]⟩) (by omega)]
    have em2 : ((List.range p).filter fun _ => true).map (fun x : Nat => PV.int (hor c (x : Int) % (p : Int))) = (tab' p (hor c)).map PV.int := by
      rw [List.filter_eq_self.mpr (by simp)]; simp [tab']
    simp only [pmS, pmT, pmU, pmV, if_true, if_false, reduceCtorEq, Bool.false_eq_true, decide_true, decide_false, mkL_f, em2, tm, t3, lt, re]
    exact fin_hand fun m => by simp
  · rw [e] at t2
    have c0 : ((1 : Int) = 0) = False := eq_false (by omega)
    have re := restS_ok (F := A) hp h7 (by omega : d ≤ 1) (by omega) TA none none [handO ds (a2 + 1)]
    rw [← hR] at re
    refine ⟨a2 + 1, ?_⟩
    simp only [pmS, pmT, pmU, pmV, if_true, if_false, reduceCtorEq, Bool.false_eq_true, decide_true, decide_false, lp, hB, td, rp, c1, mkL_f, tm, t2, c0, re]
    exact fin_hand fun m => by simp
end
end Pm
namespace Pm
open PySem PySem.Spec L2 PyProof.Rows
theorem near_few {B w d p : Int} (d0 : 0 ≤ d) (w0 : 0 ≤ w) (n : B * (d + 1) * (d + 3) * (d + 3) < (d + 2) * p * p) (g : (d + 2) * w * (p - 1 - (d + 1) * (w - 1)) ≤ B) (h : 2 * ((d + 1) * w) < p) : ¬ p ≤ w * (d + 1) * (d + 3) := fun q => by
  obtain ⟨X, hX⟩ : ∃ X, X = p - 1 - (d + 1) * (w - 1) := ⟨_, rfl⟩
  have kw0 : 0 ≤ (d + 1) * w := Int.mul_nonneg (by omega) w0
  have x1 : p < 2 * X := by
    have e : (d + 1) * (w - 1) = (d + 1) * w - (d + 1) := by grind
    rw [hX, e]; omega
  have p0 : 0 < p := by omega
  rw [← hX] at g
  have a1 : (d + 2) * w * X * ((d + 1) * (d + 3) * (d + 3)) ≤ B * ((d + 1) * (d + 3) * (d + 3)) := Int.mul_le_mul_of_nonneg_right g (Int.mul_nonneg (Int.mul_nonneg (by omega) (by omega)) (by omega))
  have a2 : (d + 2) * (d + 3) * X * p ≤ (d + 2) * (d + 3) * X * (w * (d + 1) * (d + 3)) := Int.mul_le_mul_of_nonneg_left q (Int.mul_nonneg (Int.mul_nonneg (by omega) (by omega)) (by omega))
  have a3 : (d + 2) * p * p ≤ (d + 2) * p * ((d + 3) * X) := by
    refine Int.mul_le_mul_of_nonneg_left ?_ (Int.mul_nonneg (by omega) (by omega))
    have : 3 * X ≤ (d + 3) * X := Int.mul_le_mul_of_nonneg_right (by omega) (by omega)
    omega
  have e1 : (d + 2) * w * X * ((d + 1) * (d + 3) * (d + 3)) = (d + 2) * (d + 3) * X * (w * (d + 1) * (d + 3)) := by grind
  have e2 : (d + 2) * p * ((d + 3) * X) = (d + 2) * (d + 3) * X * p := by grind
  have e3 : B * ((d + 1) * (d + 3) * (d + 3)) = B * (d + 1) * (d + 3) * (d + 3) := by grind
  omega
theorem near_votes {B v d p : Int} (d0 : 0 ≤ d) (p0 : 0 < p) (n : B * (d + 1) * (d + 3) * (d + 3) < (d + 2) * p * p) (g : v * (p - v) ≤ (d + 1) * B) (h : p < 2 * v) : ¬ (d + 3) * v ≤ (d + 2) * p := fun q => by
  have t1 : p ≤ (d + 3) * (p - v) := by
    have e : (d + 3) * (p - v) = (d + 2) * p + p - (d + 3) * v := by grind
    omega
  have s1 : p ≤ (d + 3) * v := by
    have : (d + 3) * (p - v) ≤ (d + 3) * v := Int.mul_le_mul_of_nonneg_left (by omega) (by omega)
    omega
  have m : 0 ≤ ((d + 3) * v - p) * ((d + 3) * (p - v) - p) := Int.mul_nonneg (by omega) (by omega)
  have e1 : ((d + 3) * v - p) * ((d + 3) * (p - v) - p) = (d + 3) * (d + 3) * (v * (p - v)) - (d + 2) * p * p := by grind
  have a1 : (d + 3) * (d + 3) * (v * (p - v)) ≤ (d + 3) * (d + 3) * ((d + 1) * B) := Int.mul_le_mul_of_nonneg_left g (Int.mul_nonneg (by omega) (by omega))
  have e2 : (d + 3) * (d + 3) * ((d + 1) * B) = B * (d + 1) * (d + 3) * (d + 3) := by grind
  omega
end Pm
namespace Pm
open PySem PySem.Spec L2 PyProof.Rows
/-! ### the law's last turns -/
section
variable {p : Nat}
theorem is_curve_ok {c : List Int} (cm : ∀ y ∈ c, 0 ≤ y ∧ y < (p : Int)) (c1 : 1 ≤ c.length) (c5 : c.length ≤ 5) (h : VH) : m_is_curve [.int (p : Int), .tup (c.map PV.int)] h = .ok (.bl true) h := by
  unfold m_is_curve
  rw [fnRun_go (σ := [some (.int (p : Int)), some (.tup (c.map PV.int))]) _ _ _ _ rfl]
  have rb := fun h => row_below_ok c p c.length rfl cm h
  have i1 : ((1 : Int) ≤ (c.length : Int)) = True := eq_true (by omega)
  have i2 : ((c.length : Int) ≤ 5) = True := eq_true (by omega)
  simp only [pmS, pmT, pmU, pmV, if_true, if_false, reduceCtorEq, Bool.false_eq_true, decide_true, decide_false, isi_tup_tup, List.length_map, i1, i2, rb]
  exact gc_same (by simp)
theorem value_at_ok (hp : primeB p = true) (hm : p ≤ 101) {c : List Int} (cm : ∀ y ∈ c, 0 ≤ y ∧ y < (p : Int)) (c1 : 1 ≤ c.length) (c5 : c.length ≤ 5) {x : Nat} (hx : x < p) (h : VH) : m_value_at [.int (p : Int), .tup (c.map PV.int), .int (x : Int)] h = .ok (.int (hor c x % (p : Int))) h := by
  unfold m_value_at
  rw [fnRun_go (σ := [some (.int (p : Int)), some (.tup (c.map PV.int)), some (.int (x : Int))]) _ _ _ _ rfl]
  simp only [pmS, pmT, pmU, pmV, if_true, if_false, reduceCtorEq, Bool.false_eq_true, decide_true, decide_false, check_prime_ok p hp hm, is_curve_ok cm c1 c5, Bool.not_true, is_below_nat hx, value_of_tup (by omega : 0 < p) hm c x hx]
  exact gc_same (by simp)
theorem wrong_on_ok (hp : primeB p = true) (hm : p ≤ 101) (p0 : 0 < p) {c : List Int} (cm : ∀ y ∈ c, 0 ≤ y ∧ y < (p : Int)) (c1 : 1 ≤ c.length) (c5 : c.length ≤ 5) {F : List Int} (hF : Tbl p F) (h : VH) : m_wrong_on [.int (p : Int), .tup (c.map PV.int), .tup (F.map PV.int)] h = .ok (.tup (((List.range p).filter fun x : Nat => !decide (hor c (x : Int) % (p : Int) = F.getD x 0)).map fun x : Nat => PV.int (x : Int))) h := by
  unfold m_wrong_on
  rw [fnRun_go (σ := [some (.int (p : Int)), some (.tup (c.map PV.int)), some (.tup (F.map PV.int))]) _ _ _ _ rfl]
  simp only [pmS, pmT, pmU, pmV, if_true, if_false, reduceCtorEq, Bool.false_eq_true, decide_true, decide_false, check_prime_ok p hp hm, is_curve_ok cm c1 c5, Bool.not_true, row_below_ok F (p : Int) p hF.1 hF.2, places_ok p0 hm c hF.1]
  exact gc_same ((closedV_tup _).mpr (closedVs_iff.mpr fun y hy => by obtain ⟨z, _, rfl⟩ := List.mem_map.mp hy; simp))
noncomputable def restF : SM := (sCons (sFor (iRng (aCons (eC (.int 3)) aNil)) (gSlot 12) (sCons (sSet 6 (eCall m__law_take (aCons (eVar 1) (aCons (eVar 2) aNil))))
    (sCons (sSet 13 (eCall m_value_at (aCons (eVar 2) (aCons (eVar 4) (aCons (eVar 6) aNil)))))
    (sCons (sSet 14 (eCall m__law_votes (aCons (eVar 2) (aCons (eVar 3) (aCons (eVar 8) (aCons (eVar 6) aNil))))))
    (sCons (sIf (tOrM (tVal (eBin neP (eCall (one reprP) (aCons (eVar 13) aNil)) (eCall (one reprP) (aCons (eBin ixP (eVar 5) (eVar 6)) aNil)))) (tOrM (tVal (eBin leP (eBin (mulP false) (eC (.int 2)) (eBin ixP (eVar 14) (eVar 13))) (eVar 2))) (tVal (eBin gtP (eBin subP (eVar 2) (eBin ixP (eVar 14) (eVar 13))) (eBin (mulP false) (eBin (addP false) (eVar 3) (eC (.int 1))) (eVar 10)))))) (sRet (eC (.bl false))) sNil)
    (sIf (tAndM (tVal (eVar 11)) (tVal (eBin leP (eBin (mulP false) (eBin (addP false) (eVar 3) (eC (.int 3))) (eBin ixP (eVar 14) (eVar 13))) (eBin (mulP false) (eBin (addP false) (eVar 3) (eC (.int 2))) (eVar 2))))) (sRet (eC (.bl false))) sNil))))))
    (sRet (eCall m__law_is_small (aCons (eVar 1) aNil))))
noncomputable def restN : SM := (sCons (sSet 11 (eC (.bl false)))
    (sCons (sIf (tVal (eBin ltP (eVar 2) (eC (.int 38)))) (sCons (sSet 11 (eCall m_is_near (aCons (eVar 2) (aCons (eVar 3) (aCons (eVar 8) aNil)))))
    (sCons (sIf (tVal (eBin neP (eVar 11) (eBin ltP (eBin (mulP false) (eBin (mulP false) (eBin (mulP false) (eCall m__law_broken (aCons (eVar 2) (aCons (eVar 3) (aCons (eVar 8) aNil)))) (eBin (addP false) (eVar 3) (eC (.int 1)))) (eBin (addP false) (eVar 3) (eC (.int 3)))) (eBin (addP false) (eVar 3) (eC (.int 3)))) (eBin (mulP false) (eBin (mulP false) (eBin (addP false) (eVar 3) (eC (.int 2))) (eVar 2)) (eVar 2))))) (sRet (eC (.bl false))) sNil)
    (sIf (tAndM (tVal (eVar 11)) (tVal (eBin geP (eBin (mulP false) (eBin (mulP false) (eVar 10) (eBin (addP false) (eVar 3) (eC (.int 1)))) (eBin (addP false) (eVar 3) (eC (.int 3)))) (eVar 2)))) (sRet (eC (.bl false))) sNil))) sNil)
    (sCons (sFor (iRng (aCons (eC (.int 3)) aNil)) (gSlot 12) (sCons (sSet 6 (eCall m__law_take (aCons (eVar 1) (aCons (eVar 2) aNil))))
    (sCons (sSet 13 (eCall m_value_at (aCons (eVar 2) (aCons (eVar 4) (aCons (eVar 6) aNil)))))
    (sCons (sSet 14 (eCall m__law_votes (aCons (eVar 2) (aCons (eVar 3) (aCons (eVar 8) (aCons (eVar 6) aNil))))))
    (sCons (sIf (tOrM (tVal (eBin neP (eCall (one reprP) (aCons (eVar 13) aNil)) (eCall (one reprP) (aCons (eBin ixP (eVar 5) (eVar 6)) aNil)))) (tOrM (tVal (eBin leP (eBin (mulP false) (eC (.int 2)) (eBin ixP (eVar 14) (eVar 13))) (eVar 2))) (tVal (eBin gtP (eBin subP (eVar 2) (eBin ixP (eVar 14) (eVar 13))) (eBin (mulP false) (eBin (addP false) (eVar 3) (eC (.int 1))) (eVar 10)))))) (sRet (eC (.bl false))) sNil)
    (sIf (tAndM (tVal (eVar 11)) (tVal (eBin leP (eBin (mulP false) (eBin (addP false) (eVar 3) (eC (.int 3))) (eBin ixP (eVar 14) (eVar 13))) (eBin (mulP false) (eBin (addP false) (eVar 3) (eC (.int 2))) (eVar 2))))) (sRet (eC (.bl false))) sNil))))))
    (sRet (eCall m__law_is_small (aCons (eVar 1) aNil))))))
theorem restF_ok {ds : List Int} {d : Nat} (hp : primeB p = true) (hm : p ≤ 101) (hd : d ≤ 4) (hdp : d + 2 ≤ p) {c : List Int} (lc : c.length = d + 1) (cm : ∀ y ∈ c, 0 ≤ y ∧ y < (p : Int)) {F C : List Int} (hF : Tbl p F) (hCe : C = tab' p (hor c)) {w : Int} (ew : w = sm p (dif F C)) (hw : 2 * ((d : Int) + 1) * w < (p : Int)) {nr : Bool} (hn : nr = true → nearB (Bk p (d + 1) F) d p = true) (a0 a6 a7 a9 a12 a13 a14 : Option PV) (a : Nat) :
    ∃ b, restF [a0, some (.ref 0), some (.int (p : Int)), some (.int (d : Int)), some (.tup (c.map PV.int)), some (.tup (C.map PV.int)), a6, a7, some (.tup (F.map PV.int)), a9, some (.int w), some (.bl nr), a12, a13, a14] [handO ds a] = .rt (.bl true) [handO ds b] := by
  have p0 : 0 < p := by omega
  have pI : (0 : Int) < (p : Int) := by omega
  have hC : Tbl p C := by rw [hCe]; exact tab_tbl p0 (hor c)
  have z : ∀ x h, (p : Int) ∣ Ss p (d + 1) C x h := fun x h => by
    rw [Ss_Rr]; exact Rr_all ((isZ_iff p0 hC (d + 1)).mp (by rw [hCe]; exact pol_gone p0 lc)) x
  have w0 : 0 ≤ w := by rw [ew]; exact dif_nonneg p F C
  have wp : w ≤ (p : Int) := by rw [ew]; have := dif_le p F C; omega
  have r3 : ∀ h, srcRng [.int 3] h = .ok ⟨[.int 0, .int 1, .int 2], []⟩ h := fun h => srcRng1 (by omega)
  unfold restF
  simp only [pmS, pmT, pmU, pmV, if_true, if_false, reduceCtorEq, Bool.false_eq_true, decide_true, decide_false, r3]
  refine for_go (R := fun r => ∃ b, r.bind (sRet (eCall m__law_is_small (aCons (eVar 1) aNil))) = .rt (.bl true) [handO ds b]) (fun i σ h => ∃ a a6 a12 a13 a14, σ = [a0, some (.ref 0), some (.int (p : Int)), some (.int (d : Int)), some (.tup (c.map PV.int)), some (.tup (C.map PV.int)), a6, a7, some (.tup (F.map PV.int)), a9, some (.int w), some (.bl nr), a12, a13, a14] ∧ h = [handO ds a]) ⟨a, a6, a12, a13, a14, rfl, rfl⟩ ?_ ?_
  · rintro i y σ h hy ⟨a, a6, a12, a13, a14, rfl, rfl⟩
    refine ⟨by simp, _, _, rfl, ?_⟩
    obtain ⟨x, hx, ex⟩ := tk_nat ds a p0
    have t := take0 (ds := ds) (a := a) pI
    rw [ex] at t
    have va := fun h => value_at_ok hp hm cm (by omega) (by omega) hx h
    have cx : hor c (x : Int) % (p : Int) = C.getD x 0 := by rw [hCe, tab_get _ hx]
    rw [cx] at va
    have b := tbl_get hC hx
    obtain ⟨v, hv⟩ := Int.eq_ofNat_of_zero_le b.1
    have vp : v < p := by omega
    rw [hv] at va
    have vo := fun h => law_votes_ok p0 hm hd hF hx h
    have ic : ∀ h, ixP (.tup (C.map PV.int)) (.int (x : Int)) h = .ok (.int (v : Int)) h := fun h => by rw [ixN_tup h (by rw [hC.1]; exact hx), hv]
    have iv : ∀ h, ixP (.lst ((cL p (d + 1) F x p).map PV.int)) (.int (v : Int)) h = .ok (.int (sm p (vh p (d + 1) F x v))) h := fun h => by rw [ixN_lst h (by rw [cL_len]; exact vp), cL_get vp]
    obtain ⟨V, hV⟩ : ∃ V, V = sm p (vh p (d + 1) F x v) := ⟨_, rfl⟩
    have vn := votes_near hp (by omega : d + 1 < p) hF hC z hx
    rw [hv, Int.toNat_natCast, ← hV, ← ew] at vn
    have dw : ((d + 1 : Nat) : Int) * w = ((d : Int) + 1) * w := by push_cast; rfl
    rw [dw] at vn
    have e2 : 2 * ((d : Int) + 1) * w = 2 * (((d : Int) + 1) * w) := by rw [Int.mul_assoc]
    rw [e2] at hw
    have v2 : ((2 * V) ≤ (p : Int)) = False := eq_false (by omega)
    have v3 : (((d : Int) + 1) * w < (p : Int) - V) = False := eq_false (by omega)
    have vl := cL_le hp (by omega : d + 1 < p) F x v
    rw [← hV] at vl
    have e4 : ((d + 1 : Nat) : Int) * Bk p (d + 1) F = ((d : Int) + 1) * Bk p (d + 1) F := by push_cast; rfl
    have v4 : nr = true → (((d : Int) + 3) * V ≤ ((d : Int) + 2) * (p : Int)) = False := fun q => eq_false (near_votes (B := Bk p (d + 1) F) (by omega) (by omega) (of_decide_eq_true (hn q)) (by rw [← e4]; exact vl) (by omega))
    have rv : ∀ h, reprP (.int (v : Int)) h = .ok (.str (PyData.shown (.int (v : Int)))) h := fun h => repr_int (by omega)
    have m2 : ∀ (x : Int) h, mulP false (.int 2) (.int x) h = .ok (.int (2 * x)) h := fun x h => mulP_l (by omega) (by omega)
    have md1 : ∀ (x : Int) h, mulP false (.int ((d : Int) + 1)) (.int x) h = .ok (.int (((d : Int) + 1) * x)) h := fun x h => mulP_l (by omega) (by omega)
    have md2 : ∀ (x : Int) h, mulP false (.int ((d : Int) + 2)) (.int x) h = .ok (.int (((d : Int) + 2) * x)) h := fun x h => mulP_l (by omega) (by omega)
    have md3 : ∀ (x : Int) h, mulP false (.int ((d : Int) + 3)) (.int x) h = .ok (.int (((d : Int) + 3) * x)) h := fun x h => mulP_l (by omega) (by omega)
    rw [← hV] at iv
    cases nr with
    | false =>
      simp only [pmS, pmT, pmU, pmV, if_true, if_false, reduceCtorEq, Bool.false_eq_true, decide_true, decide_false, t, va, vo, ic, iv, rv, m2, md1, md2, md3, v2, v3, gt_iff_lt, decide_true, Bool.not_true, Turn'_nx]
      exact ⟨_, _, _, _, _, rfl, rfl⟩
    | true =>
      have v4 := v4 rfl
      simp only [pmS, pmT, pmU, pmV, if_true, if_false, reduceCtorEq, Bool.false_eq_true, decide_true, decide_false, t, va, vo, ic, iv, rv, m2, md1, md2, md3, v2, v3, v4, gt_iff_lt, decide_true, Bool.not_true, Turn'_nx]
      exact ⟨_, _, _, _, _, rfl, rfl⟩
  · rintro σ h ⟨a, a6, a12, a13, a14, rfl, rfl⟩
    refine ⟨by simp, ?_⟩
    obtain ⟨b, hb⟩ := small_ok (ds := ds) (a := a)
    refine ⟨b, ?_⟩
    simp only [pmS, pmT, pmU, pmV, if_true, if_false, reduceCtorEq, Bool.false_eq_true, decide_true, decide_false, hb]
theorem restN_ok {ds : List Int} {d : Nat} (hp : primeB p = true) (hm : p ≤ 101) (hd : d ≤ 4) (hdp : d + 2 ≤ p) {c : List Int} (lc : c.length = d + 1) (cm : ∀ y ∈ c, 0 ≤ y ∧ y < (p : Int)) {F C : List Int} (hF : Tbl p F) (hCe : C = tab' p (hor c)) {w : Int} (ew : w = sm p (dif F C)) (hw : 2 * ((d : Int) + 1) * w < (p : Int)) (a0 a6 a7 a9 a11 a12 a13 a14 : Option PV) (a : Nat) :
    ∃ b, restN [a0, some (.ref 0), some (.int (p : Int)), some (.int (d : Int)), some (.tup (c.map PV.int)), some (.tup (C.map PV.int)), a6, a7, some (.tup (F.map PV.int)), a9, some (.int w), a11, a12, a13, a14] [handO ds a] = .rt (.bl true) [handO ds b] := by
  have p0 : 0 < p := by omega
  have hC : Tbl p C := by rw [hCe]; exact tab_tbl p0 (hor c)
  have w0 : 0 ≤ w := by rw [ew]; exact dif_nonneg p F C
  have wp : w ≤ (p : Int) := by rw [ew]; have := dif_le p F C; omega
  obtain ⟨R, hR⟩ : ∃ R : SM, R = restF := ⟨_, rfl⟩
  unfold restN
  rw [show ((sCons (sFor (iRng (aCons (eC (.int 3)) aNil)) (gSlot 12) (sCons (sSet 6 (eCall m__law_take (aCons (eVar 1) (aCons (eVar 2) aNil))))
    (sCons (sSet 13 (eCall m_value_at (aCons (eVar 2) (aCons (eVar 4) (aCons (eVar 6) aNil)))))
    (sCons (sSet 14 (eCall m__law_votes (aCons (eVar 2) (aCons (eVar 3) (aCons (eVar 8) (aCons (eVar 6) aNil))))))
    (sCons (sIf (tOrM (tVal (eBin neP (eCall (one reprP) (aCons (eVar 13) aNil)) (eCall (one reprP) (aCons (eBin ixP (eVar 5) (eVar 6)) aNil)))) (tOrM (tVal (eBin leP (eBin (mulP false) (eC (.int 2)) (eBin ixP (eVar 14) (eVar 13))) (eVar 2))) (tVal (eBin gtP (eBin subP (eVar 2) (eBin ixP (eVar 14) (eVar 13))) (eBin (mulP false) (eBin (addP false) (eVar 3) (eC (.int 1))) (eVar 10)))))) (sRet (eC (.bl false))) sNil)
    (sIf (tAndM (tVal (eVar 11)) (tVal (eBin leP (eBin (mulP false) (eBin (addP false) (eVar 3) (eC (.int 3))) (eBin ixP (eVar 14) (eVar 13))) (eBin (mulP false) (eBin (addP false) (eVar 3) (eC (.int 2))) (eVar 2))))) (sRet (eC (.bl false))) sNil))))))
    (sRet (eCall m__law_is_small (aCons (eVar 1) aNil))))) = restF from rfl, ← hR]
  by_cases q : (p : Int) < 38
  · have q1 := eq_true q
    obtain ⟨B, hB⟩ : ∃ B, B = Bk p (d + 1) F := ⟨_, rfl⟩
    have nk := fun h => near_ok hp hm hd hdp hF h
    have bk := fun h => law_broken_ok p0 hm hd hF h
    rw [← hB] at nk bk
    have m1 : ∀ (x : Int) h, mulP false (.int x) (.int ((d : Int) + 1)) h = .ok (.int (x * ((d : Int) + 1))) h := fun x h => mulP_r (by omega) (by omega)
    have m3 : ∀ (x : Int) h, mulP false (.int x) (.int ((d : Int) + 3)) h = .ok (.int (x * ((d : Int) + 3))) h := fun x h => mulP_r (by omega) (by omega)
    have mp : ∀ (x : Int) h, mulP false (.int x) (.int (p : Int)) h = .ok (.int (x * (p : Int))) h := fun x h => mulP_r (by omega) (by omega)
    have nb : decide (B * ((d : Int) + 1) * ((d : Int) + 3) * ((d : Int) + 3) < ((d : Int) + 2) * (p : Int) * (p : Int)) = nearB B d p := rfl
    have ge := Bk_ge hp (by omega : 2 ≤ p) (n := d + 1) (by omega) (by omega) hF hC (by rw [hCe]; exact pol_gone p0 lc)
    rw [← hB, ← ew] at ge
    have e2 : 2 * ((d : Int) + 1) * w = 2 * (((d : Int) + 1) * w) := by rw [Int.mul_assoc]
    have few : nearB B d p = true → ((p : Int) ≤ w * ((d : Int) + 1) * ((d : Int) + 3)) = False := fun q => eq_false (near_few (B := B) (by omega) w0 (of_decide_eq_true q) (by
      have e1 : (((d + 1 : Nat) : Int) + 1) = (d : Int) + 2 := by push_cast; omega
      have e3 : (((d + 1 : Nat) : Int)) = (d : Int) + 1 := by push_cast; rfl
      rw [e1, e3] at ge
      exact ge) (by omega))
    obtain ⟨b, hb⟩ := restF_ok (ds := ds) hp hm hd hdp lc cm hF hCe ew hw (nr := nearB B d p) (fun q => by rw [← hB]; exact q) a0 a6 a7 a9 a12 a13 a14 a
    rw [← hR] at hb
    refine ⟨b, ?_⟩
    cases hnb : nearB B d p with
    | false =>
      rw [hnb] at hb nk nb
      simp only [pmS, pmT, pmU, pmV, if_true, if_false, reduceCtorEq, Bool.false_eq_true, decide_true, decide_false, q1, nk, bk, m1, m3, mp, nb, decide_true, Bool.not_true, hb]
    | true =>
      have few := few hnb
      rw [hnb] at hb nk nb
      simp only [pmS, pmT, pmU, pmV, if_true, if_false, reduceCtorEq, Bool.false_eq_true, decide_true, decide_false, q1, nk, bk, m1, m3, mp, nb, few, ge_iff_le, decide_true, Bool.not_true, hb]
  · have q1 := eq_false q
    obtain ⟨b, hb⟩ := restF_ok (ds := ds) hp hm hd hdp lc cm hF hCe ew hw (nr := false) (fun q => by cases q) a0 a6 a7 a9 a12 a13 a14 a
    rw [← hR] at hb
    exact ⟨b, by simp only [pmS, pmT, pmU, pmV, if_true, if_false, reduceCtorEq, Bool.false_eq_true, decide_true, decide_false, q1, hb]⟩
end
end Pm
namespace Pm
open PySem PySem.Spec L2 PyProof.Rows
theorem plain_law : PlainLaw m_law := by
  intro ns hl hb
  obtain ⟨ds, hds, hsm, e0⟩ := m_draws_eq ns hl 260 (by omega) []
  have e0 : m__law_draws [.scr (ns.map PV.int), .int 260] [] = .ok (.lst (ds.map PV.int)) [] := e0
  refine ⟨[], ?_⟩
  obtain ⟨j0, hj0, ej0⟩ := tk_nat ds 0 (m := 3) (by omega)
  have t3 : m__law_take [.ref 0, .int 3] [PO.lst [.lst (ds.map PV.int), .int 0]] = .ok (.int (j0 : Int)) [handO ds 1] := by rw [← ej0]; exact take0 (ds := ds) (a := 0) (by omega)
  obtain ⟨M, hM, eM⟩ : ∃ M : Int, (2 ≤ M ∧ M ≤ 101) ∧ ∀ h, ixP (.lst [.int 13, .int 37, .int 101]) (.int (j0 : Int)) h = .ok (.int M) h := by
    obtain rfl | rfl | rfl : j0 = 0 ∨ j0 = 1 ∨ j0 = 2 := by omega
    · exact ⟨13, by omega, fun _ => rfl⟩
    · exact ⟨37, by omega, fun _ => rfl⟩
    · exact ⟨101, by omega, fun _ => rfl⟩
  obtain ⟨p, p2, pM, hp, fb, lp⟩ := prime_eqM (ds := ds) (a := 1) hM
  have p101 : p ≤ 101 := by omega
  have p0 : 0 < p := by omega
  have pI : (0 : Int) < (p : Int) := by omega
  obtain ⟨B, hB, b1, b5, bp⟩ : ∃ B : Nat, (if (p : Int) - 1 < 5 then (p : Int) - 1 else 5) = (B : Int) ∧ 1 ≤ B ∧ B ≤ 5 ∧ B ≤ p - 1 := by
    by_cases q : (p : Int) - 1 < 5
    · rw [if_pos q]; exact ⟨p - 1, by omega, by omega, by omega, by omega⟩
    · rw [if_neg q]; exact ⟨5, by omega, by omega, by omega, by omega⟩
  obtain ⟨d, hd, ed⟩ := tk_nat ds (1 + 1) (m := B) (by omega)
  have td : m__law_take [.ref 0, .int (B : Int)] [handO ds (1 + 1)] = .ok (.int (d : Int)) [handO ds (1 + 1 + 1)] := by rw [← ed]; exact take0 (by omega)
  have d4 : d ≤ 4 := by omega
  have dp : d + 2 ≤ p := by omega
  have lc := curve_eq (ds := ds) (a := 1 + 1 + 1) (d := d) pI (by omega)
  obtain ⟨c, hc⟩ : ∃ c, c = tks ds (1 + 1 + 1) (p : Int) (d + 1) := ⟨_, rfl⟩
  rw [← hc] at lc
  have cl : c.length = d + 1 := by rw [hc]; simp [tks]
  have cm : ∀ y ∈ c, 0 ≤ y ∧ y < (p : Int) := by rw [hc]; exact tks_mem pI
  obtain ⟨a, ha⟩ : ∃ b, b = 1 + 1 + 1 + (d + 1) := ⟨_, rfl⟩
  rw [← ha] at lc
  obtain ⟨C, hC⟩ : ∃ C, C = tab' p (hor c) := ⟨_, rfl⟩
  have TC : Tbl p C := by rw [hC]; exact tab_tbl p0 (hor c)
  have rp : ∀ h, srcRng [.int (p : Int)] h = .ok ⟨rngL 0 p, []⟩ h := fun h => srcRngN (n := p) h (by omega)
  have tm : ∀ (L : List PV) h, tupleP (.lst L) h = .ok (.tup L) h := fun _ _ => rfl
  have em2 : ((List.range p).filter fun _ => true).map (fun x : Nat => PV.int (hor c (x : Int) % (p : Int))) = C.map PV.int := by
    rw [List.filter_eq_self.mpr (by simp), hC]; simp [tab']
  -- how many are turned
  obtain ⟨most, hmo⟩ : ∃ most : Nat, most = (p - 1) / (2 * (d + 1)) := ⟨_, rfl⟩
  have mo1 : 2 * (d + 1) * most ≤ p - 1 := by rw [hmo]; exact Nat.mul_div_le _ _
  have mo2 : most ≤ p := by rw [hmo]; exact Nat.le_trans (Nat.div_le_self _ _) (by omega)
  have dv : ∀ h, divP (.int ((p : Int) - 1)) (.int (2 * ((d : Int) + 1))) h = .ok (.int (most : Int)) h := fun h => by
    have e : ((p : Int) - 1) / (2 * ((d : Int) + 1)) = (most : Int) := by
      rw [hmo, show (p : Int) - 1 = ((p - 1 : Nat) : Int) by omega]
      push_cast
      rfl
    rw [divP_pos (by omega) (by omega), e]
  have m2d : ∀ h, mulP false (.int 2) (.int ((d : Int) + 1)) h = .ok (.int (2 * ((d : Int) + 1))) h := fun h => mulP_l (by omega) (by omega)
  obtain ⟨j1, hj1, ej1⟩ := tk_nat ds a (m := most + 1) (by omega)
  have t1 : m__law_take [.ref 0, .int ((most : Int) + 1)] [handO ds a] = .ok (.int (j1 : Int)) [handO ds (a + 1)] := by
    have := take0 (ds := ds) (a := a) (many := ((most + 1 : Nat) : Int)) (by omega)
    rw [ej1] at this
    rwa [show ((most + 1 : Nat) : Int) = (most : Int) + 1 by omega] at this
  obtain ⟨j2, hj2, ej2⟩ := tk_nat ds (a + 1) (m := 4) (by omega)
  have t4 : m__law_take [.ref 0, .int 4] [handO ds (a + 1)] = .ok (.int (j2 : Int)) [handO ds (a + 1 + 1)] := by rw [← ej2]; exact take0 (by omega)
  obtain ⟨k0, hk0, ek0⟩ : ∃ k0 : Nat, (0 < most → k0 ≤ most) ∧ k0 ≤ 101 ∧ ∀ h, ixP (.lst [.int 0, .int 1, .int (most : Int), .int (j1 : Int)]) (.int (j2 : Int)) h = .ok (.int (k0 : Int)) h := by
    obtain rfl | rfl | rfl | rfl : j2 = 0 ∨ j2 = 1 ∨ j2 = 2 ∨ j2 = 3 := by omega
    · exact ⟨0, by omega, by omega, fun _ => rfl⟩
    · exact ⟨1, by omega, by omega, fun _ => rfl⟩
    · exact ⟨most, by omega, by omega, fun _ => rfl⟩
    · exact ⟨j1, by omega, by omega, fun _ => rfl⟩
  obtain ⟨k, hk, ek⟩ : ∃ k : Nat, k ≤ most ∧ ∀ h, mulP false (.int (k0 : Int)) (.int (if (0 : Int) < (most : Int) then 1 else 0)) h = .ok (.int (k : Int)) h := by
    by_cases q : (0 : Int) < (most : Int)
    · rw [if_pos q]; exact ⟨k0, hk0 (by omega), fun h => by rw [mulP_r (by omega) (by omega), Int.mul_one]⟩
    · rw [if_neg q]; exact ⟨0, by omega, fun h => by rw [mulP_r (by omega) (by omega), Int.mul_zero]; rfl⟩
  obtain ⟨F, TF, wF, lt⟩ := turned_near (ds := ds) (a := a + 1 + 1) p0 p101 TC (m := k) (by omega)
  obtain ⟨w, hw⟩ : ∃ w, w = sm p (dif F C) := ⟨_, rfl⟩
  have w0 : 0 ≤ w := by rw [hw]; exact dif_nonneg p F C
  rw [← hw] at wF
  have w2 : 2 * ((d : Int) + 1) * w < (p : Int) := by
    have l : w ≤ (most : Int) := by omega
    have a1 : 2 * ((d : Int) + 1) * w ≤ 2 * ((d : Int) + 1) * (most : Int) := Int.mul_le_mul_of_nonneg_left l (by omega)
    have a2 : 2 * ((d : Int) + 1) * (most : Int) = ((2 * (d + 1) * most : Nat) : Int) := by push_cast; rfl
    omega
  have cc := fun h => close_near hp p101 d4 dp TF cl cm (by rw [← hC, ← hw]; exact w2) h
  have wo := fun h => wrong_on_ok hp p101 p0 cm (by omega) (by omega) TF h
  have ef : ((List.range p).filter fun x : Nat => !decide (F.getD x 0 = C.getD x 0)) = (List.range p).filter fun x : Nat => !decide (hor c (x : Int) % (p : Int) = F.getD x 0) := List.filter_congr fun x hx => by
    have e : C.getD x 0 = hor c (x : Int) % (p : Int) := by rw [hC, tab_get _ (List.mem_range.mp hx)]
    rw [e]
    by_cases q : F.getD x 0 = hor c (x : Int) % (p : Int)
    · rw [decide_eq_true q, decide_eq_true q.symm]
    · rw [decide_eq_false q, decide_eq_false fun z => q z.symm]
  have df : ∀ s0 s1 s2 s3 s4 s6 s7 s9 s10 s11 s12 s13 s14 h, compL [] [6] (gSlot 6) (tVal (eBin neP (eBin ixP (eVar 8) (eVar 6)) (eBin ixP (eVar 5) (eVar 6)))) (eVar 6) [s0, s1, s2, s3, s4, some (.tup (C.map PV.int)), s6, s7, some (.tup (F.map PV.int)), s9, s10, s11, s12, s13, s14] (rngL 0 p) [] h = .ok (((List.range p).filter fun x => !decide (F.getD x 0 = C.getD x 0)).map fun x : Nat => PV.int (x : Int)) h := fun s0 s1 s2 s3 s4 s6 s7 s9 s10 s11 s12 s13 s14 h => by
    refine dif_comp p101 fun x hx => ⟨_, rfl, ?_, ?_⟩
    · have g1 : ixP (.tup (F.map PV.int)) (.int (x : Int)) h = _ := ixN_tup _ (by rw [TF.1]; exact hx)
      have g2 : ixP (.tup (C.map PV.int)) (.int (x : Int)) h = _ := ixN_tup _ (by rw [TC.1]; exact hx)
      simp only [pmS, wipeL, g1, g2]
    · simp only [pmS, wipeL]
  have ct := dif_count p F C
  obtain ⟨D, hD⟩ : ∃ D, D = (List.range p).filter fun x : Nat => !decide (F.getD x 0 = C.getD x 0) := ⟨_, rfl⟩
  rw [← ef, ← hD] at wo
  simp only [← hD] at df
  rw [← hD, ← hw] at ct
  have Dl : D.length ≤ p := by rw [hD]; exact Nat.le_trans (List.length_filter_le _ _) (by simp)
  have Dx : ∀ x ∈ D, x < p := fun x hx => by rw [hD] at hx; exact List.mem_range.mp (List.mem_filter.mp hx).1
  have Di : (D.map fun x : Nat => PV.int (x : Int)) = (D.map fun x : Nat => (x : Int)).map PV.int := by rw [List.map_map]; rfl
  have rD : ∀ h, reprP (.tup (D.map fun x : Nat => PV.int (x : Int))) h = .ok (.str (PyData.shown (.tuple ((D.map fun x : Nat => (x : Int)).map .int)))) h := fun h => by
    rw [Di]
    exact repr_tup (fun x hx => by
      obtain ⟨y, hy, rfl⟩ := List.mem_map.mp hx
      have := Dx y hy
      omega) (by rw [List.length_map]; omega)
  have rc : ∀ h, reprP (.tup (c.map PV.int)) h = .ok (.str (PyData.shown (.tuple (c.map .int)))) h := fun h => repr_tup (fun x hx => by have := cm x hx; omega) (by omega)
  obtain ⟨R, hR⟩ : ∃ R : SM, R = restN := ⟨_, rfl⟩
  obtain ⟨b, hb⟩ := restN_ok (ds := ds) hp p101 d4 dp cl cm TF hC hw w2 (some (.scr (ns.map PV.int))) none (some (.int (most : Int))) (some (.tup (D.map fun x : Nat => PV.int (x : Int)))) none none none none (a + 1 + 1 + 2 * k)
  rw [← hR] at hb
  unfold m_law
  rw [fnRun_go (σ := [some (.scr (ns.map PV.int)), none, none, none, none, none, none, none, none, none, none, none, none, none, none]) _ _ _ _ rfl]
  rw [show ((sCons (sSet 11 (eC (.bl false)))
    (sCons (sIf (tVal (eBin ltP (eVar 2) (eC (.int 38)))) (sCons (sSet 11 (eCall m_is_near (aCons (eVar 2) (aCons (eVar 3) (aCons (eVar 8) aNil)))))
    (sCons (sIf (tVal (eBin neP (eVar 11) (eBin ltP (eBin (mulP false) (eBin (mulP false) (eBin (mulP false) (eCall m__law_broken (aCons (eVar 2) (aCons (eVar 3) (aCons (eVar 8) aNil)))) (eBin (addP false) (eVar 3) (eC (.int 1)))) (eBin (addP false) (eVar 3) (eC (.int 3)))) (eBin (addP false) (eVar 3) (eC (.int 3)))) (eBin (mulP false) (eBin (mulP false) (eBin (addP false) (eVar 3) (eC (.int 2))) (eVar 2)) (eVar 2))))) (sRet (eC (.bl false))) sNil)
    (sIf (tAndM (tVal (eVar 11)) (tVal (eBin geP (eBin (mulP false) (eBin (mulP false) (eVar 10) (eBin (addP false) (eVar 3) (eC (.int 1)))) (eBin (addP false) (eVar 3) (eC (.int 3)))) (eVar 2)))) (sRet (eC (.bl false))) sNil))) sNil)
    (sCons (sFor (iRng (aCons (eC (.int 3)) aNil)) (gSlot 12) (sCons (sSet 6 (eCall m__law_take (aCons (eVar 1) (aCons (eVar 2) aNil))))
    (sCons (sSet 13 (eCall m_value_at (aCons (eVar 2) (aCons (eVar 4) (aCons (eVar 6) aNil)))))
    (sCons (sSet 14 (eCall m__law_votes (aCons (eVar 2) (aCons (eVar 3) (aCons (eVar 8) (aCons (eVar 6) aNil))))))
    (sCons (sIf (tOrM (tVal (eBin neP (eCall (one reprP) (aCons (eVar 13) aNil)) (eCall (one reprP) (aCons (eBin ixP (eVar 5) (eVar 6)) aNil)))) (tOrM (tVal (eBin leP (eBin (mulP false) (eC (.int 2)) (eBin ixP (eVar 14) (eVar 13))) (eVar 2))) (tVal (eBin gtP (eBin subP (eVar 2) (eBin ixP (eVar 14) (eVar 13))) (eBin (mulP false) (eBin (addP false) (eVar 3) (eC (.int 1))) (eVar 10)))))) (sRet (eC (.bl false))) sNil)
    (sIf (tAndM (tVal (eVar 11)) (tVal (eBin leP (eBin (mulP false) (eBin (addP false) (eVar 3) (eC (.int 3))) (eBin ixP (eVar 14) (eVar 13))) (eBin (mulP false) (eBin (addP false) (eVar 3) (eC (.int 2))) (eVar 2))))) (sRet (eC (.bl false))) sNil))))))
    (sRet (eCall m__law_is_small (aCons (eVar 1) aNil))))))) = restN from rfl, ← hR]
  simp only [pmS, pmT, pmU, pmV, if_true, if_false, reduceCtorEq, Bool.false_eq_true, decide_true, decide_false, e0, List.nil_append, List.length_nil, t3, eM, lp, hB, td, lc, rp]
  rw [comp_rngF (by simp) (fun _ => true) (fun x : Nat => .int (hor c (x : Int) % (p : Int))) (fun x hx => ⟨_, rfl, by simp only [pmS, pmT, pmU, pmV, if_true, if_false, reduceCtorEq, Bool.false_eq_true, decide_true, decide_false, wipeL], fun _ => by simp only [pmS, pmT, pmU, pmV, if_true, if_false, reduceCtorEq, Bool.false_eq_true, decide_true, decide_false, wipeL, value_eq p0 p101 c (by omega) x hx]⟩) (by omega)]
  simp only [pmS, pmT, pmU, pmV, if_true, if_false, reduceCtorEq, Bool.false_eq_true, decide_true, decide_false, mkL_f, em2, tm, m2d, dv, t1, t4, ek0, gt_iff_lt, ek, lt, rp, df, tm, List.length_map, ct, cc, rc, wo, rD, decide_true, Bool.not_true, hb]
  exact (gc_eq (fun i o hi => absurd hi (Nat.not_lt_zero _)) (by simp)).trans rfl
end Pm
set_option maxHeartbeats 0 in
theorem PySem.Challenge.cw_sevenninths_k55_whole_one_curve_holds : PySem.Challenge.rw_sevenninths_k55_whole_one_curve.Holds := by
  w_on; o_law; k_head; (case hw => w_witness2)
  k_fill
  refine Pm.law_end (l := PySem.Challenge.rw_sevenninths_k55_whole_one_curve) (n := 63) (k := 10) (x := "_law_script") (m := Pm.m_law) rfl (by decide) rfl ⟨rfl, by decide, by decide⟩ (fun w h Y => PySem.W.kIn_of Y) ?F Pm.plain_law
  case F =>
    intro w mg fa h KX G hmg
    refine' Pm.all_mk KX G hmg ?y0a ?f26a ?f26l ?f26c ?f26k ?f27a ?f27l ?f27c ?f27k ?f29a ?f29l ?f29c ?f29k ?f30a ?f30l ?f30c ?f30k ?f28a ?f28l ?f28c ?f28k ?f34a ?f34l ?f34c ?f34k ?f2a ?f2l ?f2c ?f2k ?f3a ?f3l ?f3c ?f3k ?f7a ?f7l ?f7c ?f7k ?f0l ?f0c ?f0k ?f8a ?f8l ?f8c ?f8k ?f4a ?f4l ?f4c ?f4k ?f5a ?f5l ?f5c ?f5k ?f1l ?f1c ?f1k ?f9a ?f9l ?f9c ?f9k ?f10a ?f10l ?f10c ?f10k ?f17a ?f17l ?f17c ?f17k ?f16a ?f16l ?f16c ?f16k ?f19a ?f19l ?f19c ?f19k ?f18a ?f18l ?f18c ?f18k ?f6a ?f6l ?f6c ?f6k ?f11a ?f11l ?f11c ?f11k ?f12a ?f12l ?f12c ?f12k ?f14a ?f14l ?f14c ?f14k ?f20a ?f20l ?f20c ?f20k ?f21a ?f21l ?f21c ?f21k ?f35a ?f35l ?f35c ?f35k ?f25a ?f25l ?f25c ?f25k ?f13a ?f13l ?f13c ?f13k ?f15a ?f15l ?f15c ?f15k ?f22a ?f22l ?f22c ?f22k ?f23a ?f23l ?f23c ?f23k ?f31a ?f31l ?f31c ?f31k ?f33a ?f33l ?f33c ?f33k ?f24a ?f24l ?f24c ?f24k ?f32a ?f32l ?f32c ?f32k ?f36a ?f36l ?f36c ?f36k ?z_len ?z_int ?z_range ?z_tuple ?z_list ?z_isinstance ?z_bool ?z_all ?z_enumerate ?z_reversed ?z_zip ?z_sum ?z_max ?z_min ?z_repr ?z_abs ?g_MOST_PRIME ?g_MOST_DEGREE ?g_MOST_NUMBERS ?x1a ?x1l ?x1b ?x1s ?x1e ?x1t ?x1k ?x1i ?x1f ?x1n_value ?x2a ?x2l ?x2b ?x2s ?x2e ?x2t ?x2k ?x2i ?x2f ?x2n_value
    (case y0a => k_is)
    (case x1a => k_is)
    (case x2a => k_is)
    (case x1l => k_is)
    (case x1i => k_is)
    (case x2l => k_is)
    (case x2i => k_is)
    (case f26a => k_is)
    (case f26l => k_is)
    (case f26c => k_is)
    (case f26k => k_is)
    (case f27a => k_is)
    (case f27l => k_is)
    (case f27c => k_is)
    (case f27k => k_is)
    (case f29a => k_is)
    (case f29l => k_is)
    (case f29c => k_is)
    (case f29k => k_is)
    (case f30a => k_is)
    (case f30l => k_is)
    (case f30c => k_is)
    (case f30k => k_is)
    (case f28a => k_is)
    (case f28l => k_is)
    (case f28c => k_is)
    (case f28k => k_is)
    (case f34a => k_is)
    (case f34l => k_is)
    (case f34c => k_is)
    (case f34k => k_is)
    (case f2a => k_is)
    (case f2l => k_is)
    (case f2c => k_is)
    (case f2k => k_is)
    (case f3a => k_is)
    (case f3l => k_is)
    (case f3c => k_is)
    (case f3k => k_is)
    (case f7a => k_is)
    (case f7l => k_is)
    (case f7c => k_is)
    (case f7k => k_is)
    (case f0l => k_is)
    (case f0c => k_is)
    (case f0k => k_is)
    (case f8a => k_is)
    (case f8l => k_is)
    (case f8c => k_is)
    (case f8k => k_is)
    (case f4a => k_is)
    (case f4l => k_is)
    (case f4c => k_is)
    (case f4k => k_is)
    (case f5a => k_is)
    (case f5l => k_is)
    (case f5c => k_is)
    (case f5k => k_is)
    (case f1l => k_is)
    (case f1c => k_is)
    (case f1k => k_is)
    (case f9a => k_is)
    (case f9l => k_is)
    (case f9c => k_is)
    (case f9k => k_is)
    (case f10a => k_is)
    (case f10l => k_is)
    (case f10c => k_is)
    (case f10k => k_is)
    (case f17a => k_is)
    (case f17l => k_is)
    (case f17c => k_is)
    (case f17k => k_is)
    (case f16a => k_is)
    (case f16l => k_is)
    (case f16c => k_is)
    (case f16k => k_is)
    (case f19a => k_is)
    (case f19l => k_is)
    (case f19c => k_is)
    (case f19k => k_is)
    (case f18a => k_is)
    (case f18l => k_is)
    (case f18c => k_is)
    (case f18k => k_is)
    (case f6a => k_is)
    (case f6l => k_is)
    (case f6c => k_is)
    (case f6k => k_is)
    (case f11a => k_is)
    (case f11l => k_is)
    (case f11c => k_is)
    (case f11k => k_is)
    (case f12a => k_is)
    (case f12l => k_is)
    (case f12c => k_is)
    (case f12k => k_is)
    (case f14a => k_is)
    (case f14l => k_is)
    (case f14c => k_is)
    (case f14k => k_is)
    (case f20a => k_is)
    (case f20l => k_is)
    (case f20c => k_is)
    (case f20k => k_is)
    (case f21a => k_is)
    (case f21l => k_is)
    (case f21c => k_is)
    (case f21k => k_is)
    (case f35a => k_is)
    (case f35l => k_is)
    (case f35c => k_is)
    (case f35k => k_is)
    (case f25a => k_is)
    (case f25l => k_is)
    (case f25c => k_is)
    (case f25k => k_is)
    (case f13a => k_is)
    (case f13l => k_is)
    (case f13c => k_is)
    (case f13k => k_is)
    (case f15a => k_is)
    (case f15l => k_is)
    (case f15c => k_is)
    (case f15k => k_is)
    (case f22a => k_is)
    (case f22l => k_is)
    (case f22c => k_is)
    (case f22k => k_is)
    (case f23a => k_is)
    (case f23l => k_is)
    (case f23c => k_is)
    (case f23k => k_is)
    (case f31a => k_is)
    (case f31l => k_is)
    (case f31c => k_is)
    (case f31k => k_is)
    (case f33a => k_is)
    (case f33l => k_is)
    (case f33c => k_is)
    (case f33k => k_is)
    (case f24a => k_is)
    (case f24l => k_is)
    (case f24c => k_is)
    (case f24k => k_is)
    (case f32a => k_is)
    (case f32l => k_is)
    (case f32c => k_is)
    (case f32k => k_is)
    (case f36a => k_is)
    (case f36l => k_is)
    (case f36c => k_is)
    (case f36k => k_is)
    (case z_len => k_is)
    (case z_int => k_is)
    (case z_range => k_is)
    (case z_tuple => k_is)
    (case z_list => k_is)
    (case z_isinstance => k_is)
    (case z_bool => k_is)
    (case z_all => k_is)
    (case z_enumerate => k_is)
    (case z_reversed => k_is)
    (case z_zip => k_is)
    (case z_sum => k_is)
    (case z_max => k_is)
    (case z_min => k_is)
    (case z_repr => k_is)
    (case z_abs => k_is)
    (case g_MOST_PRIME => k_is)
    (case g_MOST_DEGREE => k_is)
    (case g_MOST_NUMBERS => k_is)
    (case x1b => rfl)
    (case x1s => k_is)
    (case x1e => k_is)
    (case x1t => k_is)
    (case x1k => k_is)
    (case x1f => k_is)
    (case x1n_value => k_is)
    (case x2b => rfl)
    (case x2s => k_is)
    (case x2e => k_is)
    (case x2t => k_is)
    (case x2k => k_is)
    (case x2f => k_is)
    (case x2n_value => k_is)
