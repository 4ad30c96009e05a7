import PyProof.Rows.All
import HandS.ForMost
import HandS.Exc
import HandS.TryOnly
import HandS.TryMany
import HandS.ExcInit
import HandS.ExcField
import HandS.ExcIs
import HandS.WordsExc
import HandS.CallSlots
import HandS.Walk
import HandS.IsInst
import HandS.Wide
import HandS.Gcd
import HandS.Conv
import HandS.SortInts
import HandS.Property
import HandS.TupAny
import HandS.Deep
import HandS.DictComp
import HandS.Rev
import HandS.Zip
import HandS.TupMul
import HandS.TupLen
import HandS.RaiseMore
import HandS.Codes
import HandS.EndBits
import KE.GoesMore
import HandS.Style
import HandS.SetFor
import HandS.Zip0
import HandS.Iter
import HandS.More
import HandS.Dict
import HandS.ForDict
import HandS.MakeKwOnly
import HandS.WideBits
import HandS.Comp
import HandS.SortOrd
import HandS.TupSets
import HandS.Strs
import PyProof.InstSpecial
import PySem.Challenge.RW_sevenninths_k39_boxes
set_option Elab.async false
set_option linter.all false
set_option maxRecDepth 100000
set_option maxHeartbeats 0
namespace Pm
open PySem PySem.Spec L2 PyProof.Rows

/-! ### plain values, cells, outcomes -/
inductive PV where
  | non | bl (b : Bool) | int (i : Int) | str (s : Str) | ty (n : String) | cls (C : Nat) | exn
  | tup (xs : List PV) | lst (xs : List PV) | scr (xs : List PV) | ins (C : Nat) (fs : List (Str × PV)) | ref (n : Nat)
inductive PO where
  | lst (xs : List PV) | dic (t : Bool) (kvs : List (PV × PV)) | ins (C : Nat) (fs : List (Str × PV)) | dead
abbrev VH := List PO
abbrev LS := List (Option PV)
/-- an exception: its class, its attributes -/
structure PX where
  C : Nat
  fs : List (Str × PV)
inductive Res (α : Type) where
  | ok (a : α) (h : VH) | exc (e : PX) (h : VH) | bad
def Res.bind {α β : Type} : Res α → (α → VH → Res β) → Res β
  | .ok a h, k => k a h
  | .exc e h, _ => .exc e h
  | .bad, _ => .bad
@[simp] theorem Res.bind_ok {α β : Type} (a : α) (h : VH) (k : α → VH → Res β) : (Res.ok a h).bind k = k a h := (rfl)
@[simp] theorem Res.bind_exc {α β : Type} (e : PX) (h : VH) (k : α → VH → Res β) : (Res.exc e h).bind k = .exc e h := (rfl)
@[simp] theorem Res.bind_bad {α β : Type} (k : α → VH → Res β) : (Res.bad : Res α).bind k = .bad := (rfl)
/-- a statement's outcome -/
inductive SR where
  | nx (σ : LS) (h : VH) | rt (v : PV) (h : VH) | bk (σ : LS) (h : VH) | ct (σ : LS) (h : VH) | xc (e : PX) (σ : LS) (h : VH) | bad
def SR.bind : SR → (LS → VH → SR) → SR
  | .nx σ h, k => k σ h
  | r, _ => r
@[simp] theorem SR.bind_nx (σ : LS) (h : VH) (k : LS → VH → SR) : (SR.nx σ h).bind k = k σ h := (rfl)
@[simp] theorem SR.bind_rt (v : PV) (h : VH) (k : LS → VH → SR) : (SR.rt v h).bind k = .rt v h := (rfl)
@[simp] theorem SR.bind_bk (σ : LS) (h : VH) (k : LS → VH → SR) : (SR.bk σ h).bind k = .bk σ h := (rfl)
@[simp] theorem SR.bind_ct (σ : LS) (h : VH) (k : LS → VH → SR) : (SR.ct σ h).bind k = .ct σ h := (rfl)
@[simp] theorem SR.bind_xc (e : PX) (σ : LS) (h : VH) (k : LS → VH → SR) : (SR.xc e σ h).bind k = .xc e σ h := (rfl)
@[simp] theorem SR.bind_bad (k : LS → VH → SR) : SR.bad.bind k = .bad := (rfl)
/-- an expression within a statement: what it gives goes on, what it raises leaves at these slots -/
def Res.then {α : Type} (σ : LS) : Res α → (α → VH → SR) → SR
  | .ok a h, k => k a h
  | .exc e h, _ => .xc e σ h
  | .bad, _ => .bad
@[simp] theorem Res.then_ok {α : Type} (σ : LS) (a : α) (h : VH) (k : α → VH → SR) : (Res.ok a h).then σ k = k a h := (rfl)
@[simp] theorem Res.then_exc {α : Type} (σ : LS) (e : PX) (h : VH) (k : α → VH → SR) : (Res.exc e h).then σ k = .xc e σ h := (rfl)
@[simp] theorem Res.then_bad {α : Type} (σ : LS) (k : α → VH → SR) : (Res.bad : Res α).then σ k = .bad := (rfl)

/-! ### how plain values lie in the abstract heap -/
structure Gh where
  Hf : Hp
  ρ : Nat → Addr
  pr : Addr → Option HO
/-- the classes by number; in an except suite: where the exception lies, where its dict, what it is -/
structure Ck where
  cls : Nat → Addr
  ex : Option (Addr × Addr × PX)
instance : CoeFun Ck (fun _ => Nat → Addr) := ⟨Ck.cls⟩
/-- the written part, the classes by number -/
structure Kc where
  K : PySem.W.Frag
  ck : Ck
abbrev Kc.cls (K : Kc) : Nat → Addr := K.ck.cls
abbrev Kc.ex (K : Kc) : Option (Addr × Addr × PX) := K.ck.ex
mutual
def Rep (K : Kc) (g : Gh) (n : Nat) : PV → V → Prop
  | .non, u => u = .non
  | .bl b, u => u = .bl b
  | .int i, u => u = .int i
  | .str s, u => u = .str s
  | .ty t, u => u = .ty t
  | .cls C, u => u = .ref (K.cls C)
  | .exn, u => ∃ a dd e, K.ex = some (a, dd, e) ∧ u = .ref a
  | .tup xs, u => ∃ a us, u = .ref a ∧ g.Hf a = some (.tup us) ∧ Reps K g n xs us
  | .lst xs, u => ∃ a us, u = .ref a ∧ g.Hf a = some (.lst us) ∧ Reps K g n xs us
  | .scr xs, u => ∃ a us, u = .ref a ∧ SqL K.K g.Hf a us ∧ Reps K g n xs us
  | .ins C fs, u => ∃ a dx gs, u = .ref a ∧ g.Hf a = some (.ins (K.cls C) dx gs) ∧ RepF K g n fs gs
  | .ref i, u => i < n ∧ u = .ref (g.ρ i)
def Reps (K : Kc) (g : Gh) (n : Nat) : List PV → List V → Prop
  | [], us => us = []
  | x :: xs, us => ∃ u r, us = u :: r ∧ Rep K g n x u ∧ Reps K g n xs r
def RepF (K : Kc) (g : Gh) (n : Nat) : List (Str × PV) → List (Str × V) → Prop
  | [], us => us = []
  | (f, x) :: xs, us => ∃ u r, us = (f, u) :: r ∧ Rep K g n x u ∧ RepF K g n xs r
end
/-- all that values lean on is kept -/
structure Gh.le0 (g : Gh) (n : Nat) (g' : Gh) : Prop where
  same : Same g.Hf g'.Hf
  rho : ∀ i, i < n → g'.ρ i = g.ρ i
structure Gh.le (g : Gh) (n : Nat) (g' : Gh) : Prop where
  same : Same g.Hf g'.Hf
  rho : ∀ i, i < n → g'.ρ i = g.ρ i
  pr : g'.pr = g.pr
theorem Gh.le.to0 {g g' : Gh} {n : Nat} (l : g.le n g') : g.le0 n g' := ⟨l.same, l.rho⟩
theorem Gh.le0.trans {g g1 g2 : Gh} {n n1 : Nat} (a : g.le0 n g1) (b : g1.le0 n1 g2) (h : n ≤ n1) : g.le0 n g2 :=
  ⟨a.same.trans b.same, fun i hi => (b.rho i (Nat.lt_of_lt_of_le hi h)).trans (a.rho i hi)⟩
theorem Gh.le.refl (g : Gh) (n : Nat) : g.le n g := ⟨Same.refl _, fun _ _ => rfl, rfl⟩
theorem Gh.le.trans {g g1 g2 : Gh} {n n1 : Nat} (a : g.le n g1) (b : g1.le n1 g2) (h : n ≤ n1) : g.le n g2 :=
  ⟨a.same.trans b.same, fun i hi => (b.rho i (Nat.lt_of_lt_of_le hi h)).trans (a.rho i hi), b.pr.trans a.pr⟩
theorem Same.sqT {K : PySem.W.Frag} {H H' : Hp} {a : Addr} {xs : List V} (e : Same H H') (h : SqT K H a xs) : SqT K H' a xs := by
  rcases h with (h | ⟨o, h⟩) | h
  · exact .inl (.inl (e _ _ h))
  · exact .inl (.inr ⟨o, e _ _ h⟩)
  · exact .inr h
section
variable {K : Kc} {g g' : Gh} {n n' : Nat}
mutual
theorem Rep.mono0 (l : g.le0 n g') (hn : n ≤ n') : ∀ {x : PV} {u : V}, Rep K g n x u → Rep K g' n' x u
  | .non, _, h => by simpa only [Rep] using h
  | .bl _, _, h => by simpa only [Rep] using h
  | .int _, _, h => by simpa only [Rep] using h
  | .str _, _, h => by simpa only [Rep] using h
  | .ty _, _, h => by simpa only [Rep] using h
  | .cls _, _, h => by simpa only [Rep] using h
  | .exn, _, h => by simpa only [Rep] using h
  | .tup xs, _, h => by
    simp only [Rep] at h ⊢
    obtain ⟨a, us, e, s, r⟩ := h
    exact ⟨a, us, e, l.same _ _ s, Reps.mono0 l hn r⟩
  | .lst xs, _, h => by
    simp only [Rep] at h ⊢
    obtain ⟨a, us, e, s, r⟩ := h
    exact ⟨a, us, e, l.same _ _ s, Reps.mono0 l hn r⟩
  | .scr xs, _, h => by
    simp only [Rep] at h ⊢
    obtain ⟨a, us, e, s, r⟩ := h
    exact ⟨a, us, e, l.same.seq s, Reps.mono0 l hn r⟩
  | .ins C fs, _, h => by
    simp only [Rep] at h ⊢
    obtain ⟨a, dx, gs, e, s, r⟩ := h
    exact ⟨a, dx, gs, e, l.same _ _ s, RepF.mono0 l hn r⟩
  | .ref i, _, h => by
    simp only [Rep] at h ⊢
    exact ⟨Nat.lt_of_lt_of_le h.1 hn, by rw [l.rho i h.1]; exact h.2⟩
theorem Reps.mono0 (l : g.le0 n g') (hn : n ≤ n') : ∀ {xs : List PV} {us : List V}, Reps K g n xs us → Reps K g' n' xs us
  | [], _, h => by simpa only [Reps] using h
  | x :: xs, _, h => by
    simp only [Reps] at h ⊢
    obtain ⟨u, r, e, a, b⟩ := h
    exact ⟨u, r, e, Rep.mono0 l hn a, Reps.mono0 l hn b⟩
theorem RepF.mono0 (l : g.le0 n g') (hn : n ≤ n') : ∀ {fs : List (Str × PV)} {us : List (Str × V)}, RepF K g n fs us → RepF K g' n' fs us
  | [], _, h => by simpa only [RepF] using h
  | (f, x) :: xs, _, h => by
    simp only [RepF] at h ⊢
    obtain ⟨u, r, e, a, b⟩ := h
    exact ⟨u, r, e, Rep.mono0 l hn a, RepF.mono0 l hn b⟩
end
theorem Reps.length : ∀ {xs : List PV} {us : List V}, Reps K g n xs us → us.length = xs.length
  | [], _, h => by simp only [Reps] at h; subst h; rfl
  | x :: xs, _, h => by
    simp only [Reps] at h
    obtain ⟨u, r, rfl, _, b⟩ := h
    rw [List.length_cons, List.length_cons, Reps.length b]
theorem Reps.get : ∀ {xs : List PV} {us : List V} {i : Nat} {x : PV}, Reps K g n xs us → xs[i]? = some x → ∃ u, us[i]? = some u ∧ Rep K g n x u
  | [], _, _, _, _, e => by simp at e
  | y :: ys, _, 0, x, h, e => by
    simp only [Reps] at h
    obtain ⟨u, r, rfl, a, _⟩ := h
    obtain rfl : y = x := by simpa using e
    exact ⟨u, rfl, a⟩
  | y :: ys, _, i + 1, x, h, e => by
    simp only [Reps] at h
    obtain ⟨u, r, rfl, _, b⟩ := h
    obtain ⟨u', e', h'⟩ := Reps.get (i := i) b (by simpa using e)
    exact ⟨u', by simpa using e', h'⟩
theorem Reps.get' : ∀ {xs : List PV} {us : List V} {i : Nat} {u : V}, Reps K g n xs us → us[i]? = some u → ∃ x, xs[i]? = some x ∧ Rep K g n x u
  | [], _, _, _, h, e => by simp only [Reps] at h; subst h; simp at e
  | y :: ys, _, 0, u, h, e => by
    simp only [Reps] at h
    obtain ⟨u', r, rfl, a, _⟩ := h
    obtain rfl : u' = u := by simpa using e
    exact ⟨y, rfl, a⟩
  | y :: ys, _, i + 1, u, h, e => by
    simp only [Reps] at h
    obtain ⟨u', r, rfl, _, b⟩ := h
    obtain ⟨x, e', h'⟩ := Reps.get' (i := i) b (by simpa using e)
    exact ⟨x, by simpa using e', h'⟩
theorem Reps.append : ∀ {xs ys : List PV} {us vs : List V}, Reps K g n xs us → Reps K g n ys vs → Reps K g n (xs ++ ys) (us ++ vs)
  | [], _, _, _, h, h' => by simp only [Reps] at h; subst h; simpa using h'
  | x :: xs, _, _, _, h, h' => by
    simp only [Reps] at h
    obtain ⟨u, r, rfl, a, b⟩ := h
    simp only [List.cons_append, Reps]
    exact ⟨u, _, rfl, a, Reps.append b h'⟩
theorem Reps.nil : Reps K g n [] [] := by simp only [Reps]
theorem Reps.cons {x : PV} {xs : List PV} {u : V} {us : List V} (a : Rep K g n x u) (b : Reps K g n xs us) : Reps K g n (x :: xs) (u :: us) := by
  simp only [Reps]; exact ⟨u, us, rfl, a, b⟩
theorem Reps.take : ∀ (k : Nat) {xs : List PV} {us : List V}, Reps K g n xs us → Reps K g n (xs.take k) (us.take k)
  | 0, _, _, _ => by simp only [List.take_zero]; exact Reps.nil
  | _ + 1, [], _, h => by simp only [Reps] at h; subst h; simp only [List.take_nil]; exact Reps.nil
  | k + 1, x :: xs, _, h => by
    simp only [Reps] at h
    obtain ⟨u, r, rfl, a, b⟩ := h
    simp only [List.take_succ_cons]
    exact Reps.cons a (Reps.take k b)
theorem Reps.drop : ∀ (k : Nat) {xs : List PV} {us : List V}, Reps K g n xs us → Reps K g n (xs.drop k) (us.drop k)
  | 0, _, _, h => h
  | _ + 1, [], _, h => by simp only [Reps] at h; subst h; simp only [List.drop_nil]; exact Reps.nil
  | k + 1, x :: xs, _, h => by
    simp only [Reps] at h
    obtain ⟨u, r, rfl, a, b⟩ := h
    simpa only [List.drop_succ_cons] using Reps.drop k b
theorem Reps.set {x : PV} {u : V} (a : Rep K g n x u) : ∀ (i : Nat) {xs : List PV} {us : List V}, Reps K g n xs us → Reps K g n (xs.set i x) (us.set i u)
  | _, [], _, h => by simp only [Reps] at h; subst h; simp only [List.set_nil]; exact Reps.nil
  | 0, y :: ys, _, h => by
    simp only [Reps] at h
    obtain ⟨u', r, rfl, a', b⟩ := h
    simp only [List.set_cons_zero]
    exact Reps.cons a b
  | i + 1, y :: ys, _, h => by
    simp only [Reps] at h
    obtain ⟨u', r, rfl, a', b⟩ := h
    simp only [List.set_cons_succ]
    exact Reps.cons a' (Reps.set a i b)
theorem Reps.reverse : ∀ {xs : List PV} {us : List V}, Reps K g n xs us → Reps K g n xs.reverse us.reverse
  | [], _, h => by simp only [Reps] at h; subst h; exact Reps.nil
  | x :: xs, _, h => by
    simp only [Reps] at h
    obtain ⟨u, r, rfl, a, b⟩ := h
    simp only [List.reverse_cons]
    exact Reps.append (Reps.reverse b) (Reps.cons a Reps.nil)
theorem Reps.ints : ∀ (ns : List Int), Reps K g n (ns.map PV.int) (ns.map V.int)
  | [] => Reps.nil
  | i :: ns => Reps.cons (by simp only [Rep]) (Reps.ints ns)
theorem Reps.ints_eq : ∀ {ns : List Int} {us : List V}, Reps K g n (ns.map PV.int) us → us = ns.map V.int
  | [], _, h => by simpa only [List.map_nil, Reps] using h
  | i :: ns, _, h => by
    simp only [List.map_cons, Reps] at h
    obtain ⟨u, r, rfl, a, b⟩ := h
    simp only [Rep] at a
    rw [a, Reps.ints_eq b]; rfl
theorem Reps.bls_eq : ∀ {ns : List Bool} {us : List V}, Reps K g n (ns.map PV.bl) us → us = ns.map V.bl
  | [], _, h => by simpa only [List.map_nil, Reps] using h
  | i :: ns, _, h => by
    simp only [List.map_cons, Reps] at h
    obtain ⟨u, r, rfl, a, b⟩ := h
    simp only [Rep] at a
    rw [a, Reps.bls_eq b]; rfl
theorem Reps.strs_eq : ∀ {ns : List Str} {us : List V}, Reps K g n (ns.map PV.str) us → us = ns.map V.str
  | [], _, h => by simpa only [List.map_nil, Reps] using h
  | i :: ns, _, h => by
    simp only [List.map_cons, Reps] at h
    obtain ⟨u, r, rfl, a, b⟩ := h
    simp only [Rep] at a
    rw [a, Reps.strs_eq b]; rfl
theorem RepF.lookup {f : Str} : ∀ {fs : List (Str × PV)} {gs : List (Str × V)}, RepF K g n fs gs →
    (∀ x, fs.lookup f = some x → ∃ u, gs.lookup f = some u ∧ Rep K g n x u) ∧ (fs.lookup f = none → gs.lookup f = none)
  | [], _, h => by simp only [RepF] at h; subst h; exact ⟨(fun _ z => nomatch z), fun _ => rfl⟩
  | (k, x) :: fs, _, h => by
    simp only [RepF] at h
    obtain ⟨u, r, rfl, a, b⟩ := h
    have ih := RepF.lookup (f := f) b
    cases e : f == k with
    | true => simp only [List.lookup_cons, e]; exact ⟨fun y z => ⟨u, rfl, by cases z; exact a⟩, fun z => nomatch z⟩
    | false => simp only [List.lookup_cons, e]; exact ih
theorem RepF.length : ∀ {fs : List (Str × PV)} {gs : List (Str × V)}, RepF K g n fs gs → gs.length = fs.length
  | [], _, h => by simp only [RepF] at h; subst h; rfl
  | (f, x) :: xs, _, h => by
    simp only [RepF] at h
    obtain ⟨u, r, rfl, _, b⟩ := h
    rw [List.length_cons, List.length_cons, RepF.length b]
theorem RepF.nil : RepF K g n [] [] := by simp only [RepF]
theorem RepF.cons {f : Str} {x : PV} {xs : List (Str × PV)} {u : V} {us : List (Str × V)} (a : Rep K g n x u) (b : RepF K g n xs us) : RepF K g n ((f, x) :: xs) ((f, u) :: us) := by
  simp only [RepF]; exact ⟨u, us, rfl, a, b⟩
end

/-! ### dict keys -/
def pK : PV → Option Key
  | .int i => some (.inl i)
  | .str s => some (.inr s)
  | _ => none
def pKs : List PV → Option (List Key)
  | [] => some []
  | x :: xs => match pK x, pKs xs with
    | some k, some ks => some (k :: ks)
    | _, _ => none
def pT : PV → Option (List Key)
  | .tup xs => pKs xs
  | _ => none
/-- a dict's pairs: keys by value -/
def RepD {κ : Type} (K : Kc) (g : Gh) (n : Nat) (key : PV → Option κ) : List (PV × PV) → List (κ × V) → Prop
  | [], us => us = []
  | (k, x) :: xs, us => ∃ k' u r, us = (k', u) :: r ∧ key k = some k' ∧ Rep K g n x u ∧ RepD K g n key xs r
theorem RepD.mono0 {κ : Type} {K : Kc} {g g' : Gh} {n n' : Nat} {key : PV → Option κ} (l : g.le0 n g') (hn : n ≤ n') : ∀ {xs : List (PV × PV)} {us : List (κ × V)}, RepD K g n key xs us → RepD K g' n' key xs us
  | [], _, h => by simpa only [RepD] using h
  | (k, x) :: xs, _, h => by
    simp only [RepD] at h ⊢
    obtain ⟨k', u, r, e, ek, a, b⟩ := h
    exact ⟨k', u, r, e, ek, a.mono0 l hn, RepD.mono0 l hn b⟩
def RepO (K : Kc) (g : Gh) (n : Nat) : PO → HO → Prop
  | .lst xs, o => ∃ us, o = .lst us ∧ Reps K g n xs us
  | .dic false kvs, o => ∃ us, o = .dK us ∧ RepD K g n pK kvs us
  | .dic true kvs, o => ∃ us, o = .dT us ∧ RepD K g n pT kvs us
  | .ins C fs, o => ∃ dx gs, o = .ins (K.cls C) dx gs ∧ RepF K g n fs gs
  | .dead, _ => True
theorem RepO.mono0 {K : Kc} {g g' : Gh} {n n' : Nat} (l : g.le0 n g') (hn : n ≤ n') {o : PO} {u : HO} (h : RepO K g n o u) : RepO K g' n' o u := by
  cases o with
  | lst xs => obtain ⟨us, e, r⟩ := h; exact ⟨us, e, r.mono0 l hn⟩
  | dic t kvs =>
    cases t with
    | false => obtain ⟨us, e, r⟩ := h; exact ⟨us, e, r.mono0 l hn⟩
    | true => obtain ⟨us, e, r⟩ := h; exact ⟨us, e, r.mono0 l hn⟩
  | ins C fs => obtain ⟨dx, gs, e, r⟩ := h; exact ⟨dx, gs, e, r.mono0 l hn⟩
  | dead => trivial
/-- the cells and the frozen things, in the abstract heap -/
structure RelH (K : Kc) (g : Gh) (h : VH) (H : Hp) : Prop where
  same : Same g.Hf H
  cell : ∀ i o, h[i]? = some o → o ≠ .dead → ∃ u, H (g.ρ i) = some u ∧ RepO K g h.length o u
  sep : ∀ i o, h[i]? = some o → o ≠ .dead → g.Hf (g.ρ i) = none
  inj : ∀ i j o p, h[i]? = some o → o ≠ .dead → h[j]? = some p → p ≠ .dead → g.ρ i = g.ρ j → i = j
  fr : ∀ a o, g.pr a = some o → H a = some o ∧ g.Hf a = none ∧ ∀ i p, h[i]? = some p → p ≠ .dead → g.ρ i ≠ a
  ex : ∀ a dd e, K.ex = some (a, dd, e) → ∃ gs, g.Hf dd = some (.xd gs) ∧ RepF K g h.length e.fs gs
structure RelS (K : Kc) (g : Gh) (n : Nat) (σ : LS) (τ : L2.St) : Prop where
  len : τ.length = σ.length
  get : ∀ (i : Nat) (v : PV), σ[i]? = some (some v) → ∃ u, τ[i]? = some (some u) ∧ Rep K g n v u
theorem RelS.mono0 {K : Kc} {g g' : Gh} {n n' : Nat} {σ : LS} {τ : L2.St} (h : RelS K g n σ τ) (l : g.le0 n g') (hn : n ≤ n') : RelS K g' n' σ τ :=
  ⟨h.len, fun i v e => let ⟨u, e', r⟩ := h.get i v e; ⟨u, e', r.mono0 l hn⟩⟩
section
variable {K : Kc} {g g' : Gh} {n n' : Nat}
theorem Rep.mono (l : g.le n g') (hn : n ≤ n') {x : PV} {u : V} (h : Rep K g n x u) : Rep K g' n' x u := h.mono0 l.to0 hn
theorem Reps.mono (l : g.le n g') (hn : n ≤ n') {x : List PV} {u : List V} (h : Reps K g n x u) : Reps K g' n' x u := h.mono0 l.to0 hn
theorem RepF.mono (l : g.le n g') (hn : n ≤ n') {x : List (Str × PV)} {u : List (Str × V)} (h : RepF K g n x u) : RepF K g' n' x u := h.mono0 l.to0 hn
theorem RepD.mono {κ : Type} {key : PV → Option κ} (l : g.le n g') (hn : n ≤ n') {x : List (PV × PV)} {u : List (κ × V)} (h : RepD K g n key x u) : RepD K g' n' key x u := h.mono0 l.to0 hn
theorem RepO.mono (l : g.le n g') (hn : n ≤ n') {o : PO} {u : HO} (h : RepO K g n o u) : RepO K g' n' o u := h.mono0 l.to0 hn
theorem RelS.mono {σ : LS} {τ : L2.St} (h : RelS K g n σ τ) (l : g.le n g') (hn : n ≤ n') : RelS K g' n' σ τ := h.mono0 l.to0 hn
end
theorem RelS.set {K : Kc} {g : Gh} {n : Nat} {σ : LS} {τ : L2.St} (h : RelS K g n σ τ) (i : Nat) {v : PV} {u : V} (r : Rep K g n v u) : RelS K g n (σ.set i (some v)) (τ.set i (some u)) := by
  refine ⟨by simp [h.len], fun j w e => ?_⟩
  by_cases hj : i = j
  · subst hj
    by_cases hl : i < σ.length
    · rw [List.getElem?_set_self hl] at e
      cases e
      exact ⟨u, by rw [List.getElem?_set_self (by rw [h.len]; exact hl)], r⟩
    · rw [List.getElem?_eq_none (by simpa using hl)] at e; cases e
  · rw [List.getElem?_set_ne hj] at e
    rw [List.getElem?_set_ne hj]
    exact h.get j w e
theorem RelS.forget {K : Kc} {g : Gh} {n : Nat} {σ : LS} {τ : L2.St} (h : RelS K g n σ τ) (i : Nat) : RelS K g n (σ.set i none) (τ.set i none) := by
  refine ⟨by simp [h.len], fun j w e => ?_⟩
  by_cases hj : i = j
  · subst hj
    by_cases hl : i < σ.length
    · rw [List.getElem?_set_self hl] at e; cases e
    · rw [List.getElem?_eq_none (by simpa using hl)] at e; cases e
  · rw [List.getElem?_set_ne hj] at e
    rw [List.getElem?_set_ne hj]
    exact h.get j w e

/-! ### what an outcome owes -/
/-- an exception as it lies behind -/
def RepX (K : Kc) (g : Gh) (n : Nat) (e : PX) (cls : Value) (d : Option Addr) (H : Hp) : Prop :=
  cls = .ref (K.cls e.C) ∧ ∃ (dd : Addr) (gs : List (Str × V)), d = some dd ∧ g.Hf dd = some (.xd gs) ∧ RepF K g n e.fs gs
def Post {α β : Type} (K : Kc) (R : Gh → Nat → α → β → Prop) (g : Gh) (n : Nat) (Q : β → Hp → Prop) (E : XK) : Res α → Prop
  | .ok a h' => ∀ g' u H', g.le n g' → n ≤ h'.length → RelH K g' h' H' → R g' h'.length a u → Q u H'
  | .exc e h' => ∀ g' cls d H', g.le n g' → n ≤ h'.length → RelH K g' h' H' → RepX K g' h'.length e cls d H' → E cls d H'
  | .bad => False
section
variable {α β γ δ : Type} {K : Kc} {R : Gh → Nat → α → β → Prop} {R' : Gh → Nat → γ → δ → Prop} {g g1 : Gh} {n n1 : Nat} {Q : β → Hp → Prop} {Q' : δ → Hp → Prop} {E : XK}
theorem Post.up {r : Res α} (h : Post K R g n Q E r) (l : g.le n g1) (hn : n ≤ n1) : Post K R g1 n1 Q E r := by
  cases r with
  | ok a h' => exact fun g' u H' l' hn' rh ra => h g' u H' (l.trans l' hn) (Nat.le_trans hn hn') rh ra
  | exc e h' => exact fun g' c d H' l' hn' rh ra => h g' c d H' (l.trans l' hn) (Nat.le_trans hn hn') rh ra
  | bad => exact h
theorem Post.imp {Q2 : β → Hp → Prop} {E2 : XK} {r : Res α} (h : Post K R g n Q E r) (hq : ∀ u H, Q u H → Q2 u H) (he : ∀ c d H, E c d H → E2 c d H) : Post K R g n Q2 E2 r := by
  cases r with
  | ok a h' => exact fun g' u H' l' hn' rh ra => hq _ _ (h g' u H' l' hn' rh ra)
  | exc e h' => exact fun g' c d H' l' hn' rh ra => he _ _ _ (h g' c d H' l' hn' rh ra)
  | bad => exact h
/-- behind the first part -/
structure Mid (K : Kc) (R : Gh → Nat → α → β → Prop) (g : Gh) (n : Nat) (a : α) (h1 : VH) (g1 : Gh) (u : β) (H1 : Hp) : Prop where
  le : g.le n g1
  len : n ≤ h1.length
  rel : RelH K g1 h1 H1
  rep : R g1 h1.length a u
theorem Post.bind {r : Res α} {k : α → VH → Res γ} (h : Post K R' g n Q' E (r.bind k)) :
    Post K R g n (fun u H1 => ∃ g1 a h1, Mid K R g n a h1 g1 u H1 ∧ Post K R' g1 h1.length Q' E (k a h1)) E r := by
  cases r with
  | ok a h' => exact fun g' u H' l' hn' rh ra => ⟨g', a, h', ⟨l', hn', rh, ra⟩, Post.up h l' hn'⟩
  | exc e h' => exact h
  | bad => exact h
end
end Pm
namespace Pm
open PySem PySem.Spec L2 PyProof.Rows

/-! ### judgements: a piece of syntax and what it computes, in plain terms -/
abbrev EM := LS → VH → Res PV
abbrev TM := LS → VH → Res Bool
abbrev AM := LS → VH → Res (List PV)
abbrev SM := LS → VH → SR
abbrev kx (c : Ck) (X : Cx) : Kc := ⟨X.K, c⟩
abbrev RepB : Gh → Nat → Bool → Bool → Prop := fun _ _ a b => b = a
/-- the wish, at these slots -/
abbrev at_ (W : WX) (τ : L2.St) : XK := fun c d H => W c d τ H

def SE (c : Ck) (X : Cx) (W : WX) (e : Expr) (m : EM) : Prop := ∃ t, PE X e t ∧ ∀ g σ h τ H Q, RelS (kx c X) g h.length σ τ → RelH (kx c X) g h H → Post (kx c X) (Rep (kx c X)) g h.length Q (at_ W τ) (m σ h) → t τ H Q
def ST (c : Ck) (X : Cx) (W : WX) (e : Expr) (m : TM) : Prop := ∃ t, PT X e t ∧ ∀ g σ h τ H Q, RelS (kx c X) g h.length σ τ → RelH (kx c X) g h H → Post (kx c X) RepB g h.length Q (at_ W τ) (m σ h) → t τ H Q
def SW (c : Ck) (X : Cx) (W : WX) (e : Expr) (m : TM) : Prop := ∃ t, PW X e t ∧ ∀ g σ h τ H Q, RelS (kx c X) g h.length σ τ → RelH (kx c X) g h H → Post (kx c X) RepB g h.length Q (at_ W τ) (m σ h) → t τ H Q
def SA (c : Ck) (X : Cx) (W : WX) (es : List Expr) (m : AM) : Prop := (∀ σ h xs h', m σ h = .ok xs h' → xs.length = es.length) ∧ ∃ t, PA X es t ∧ ∀ g σ h τ H Q, RelS (kx c X) g h.length σ τ → RelH (kx c X) g h H → Post (kx c X) (Reps (kx c X)) g h.length Q (at_ W τ) (m σ h) → t τ H Q
/-- what a statement's outcome owes -/
def PostS (K : Kc) (g : Gh) (n : Nat) (D : Ends) (W : WX) : SR → Prop
  | .nx σ h' => ∀ g' τ H', g.le n g' → n ≤ h'.length → RelH K g' h' H' → RelS K g' h'.length σ τ → D.nx τ H'
  | .bk σ h' => ∀ g' τ H', g.le n g' → n ≤ h'.length → RelH K g' h' H' → RelS K g' h'.length σ τ → D.bk τ H'
  | .ct σ h' => ∀ g' τ H', g.le n g' → n ≤ h'.length → RelH K g' h' H' → RelS K g' h'.length σ τ → D.ct τ H'
  | .rt v h' => ∀ g' u H', g.le n g' → n ≤ h'.length → RelH K g' h' H' → Rep K g' h'.length v u → D.rt u H'
  | .xc e σ h' => ∀ g' cls d τ H', g.le n g' → n ≤ h'.length → RelH K g' h' H' → RelS K g' h'.length σ τ → RepX K g' h'.length e cls d H' → W cls d τ H'
  | .bad => False
def S1 (c : Ck) (X : Cx) (W : WX) (s : Stmt) (m : SM) : Prop := ∃ t, PS X s t ∧ ∀ g σ h τ H D, RelS (kx c X) g h.length σ τ → RelH (kx c X) g h H → PostS (kx c X) g h.length D W (m σ h) → t D τ H
def SS (c : Ck) (X : Cx) (W : WX) (s : List Stmt) (m : SM) : Prop := ∃ t, PSs X s t ∧ ∀ g σ h τ H D, RelS (kx c X) g h.length σ τ → RelH (kx c X) g h H → PostS (kx c X) g h.length D W (m σ h) → t D τ H

section
variable {K : Kc} {g g1 : Gh} {n n1 : Nat} {D : Ends} {W : WX}
theorem PostS.up {r : SR} (h : PostS K g n D W r) (l : g.le n g1) (hn : n ≤ n1) : PostS K g1 n1 D W r := by
  cases r with
  | nx σ h' => exact fun g' τ H' l' hn' => h g' τ H' (l.trans l' hn) (Nat.le_trans hn hn')
  | bk σ h' => exact fun g' τ H' l' hn' => h g' τ H' (l.trans l' hn) (Nat.le_trans hn hn')
  | ct σ h' => exact fun g' τ H' l' hn' => h g' τ H' (l.trans l' hn) (Nat.le_trans hn hn')
  | rt v h' => exact fun g' τ H' l' hn' => h g' τ H' (l.trans l' hn) (Nat.le_trans hn hn')
  | xc e σ h' => exact fun g' c d τ H' l' hn' => h g' c d τ H' (l.trans l' hn) (Nat.le_trans hn hn')
  | bad => exact h
/-- the exceptions of a part of a statement leave at its slots -/
theorem PostS.then {α β : Type} {R : Gh → Nat → α → β → Prop} {r : Res α} {k : α → VH → SR} {σ : LS} {τ : L2.St} (rs : RelS K g n σ τ) (h : PostS K g n D W (r.then σ k)) :
    Post K R g n (fun u H1 => ∃ g1 a h1, Mid K R g n a h1 g1 u H1 ∧ PostS K g1 h1.length D W (k a h1)) (at_ W τ) r := by
  cases r with
  | ok a h' => exact fun g' u H' l' hn' rh ra => ⟨g', a, h', ⟨l', hn', rh, ra⟩, PostS.up h l' hn'⟩
  | exc e h' => exact fun g' c d H' l' hn' rh rx => h g' c d τ H' l' hn' rh (rs.mono l' hn') rx
  | bad => exact h
end

/-! ### operators by values -/
section
variable {c : Ck} {X : Cx} {W : WX}
def OpS (c : Ck) (X : Cx) (r : R2) (f : PV → PV → VH → Res PV) : Prop := ∀ g h H x y u v Q E, Rep (kx c X) g h.length x u → Rep (kx c X) g h.length y v → RelH (kx c X) g h H → Post (kx c X) (Rep (kx c X)) g h.length Q E (f x y h) → r u v H Q
def UnS (c : Ck) (X : Cx) (r : V → Hp → VK → Prop) (f : PV → VH → Res PV) : Prop := ∀ g h H x u Q E, Rep (kx c X) g h.length x u → RelH (kx c X) g h H → Post (kx c X) (Rep (kx c X)) g h.length Q E (f x h) → r u H Q
def CallS (c : Ck) (X : Cx) (r : List V → Hp → VK → Prop) (f : List PV → VH → Res PV) : Prop := ∀ g h H xs us Q E, Reps (kx c X) g h.length xs us → RelH (kx c X) g h H → Post (kx c X) (Rep (kx c X)) g h.length Q E (f xs h) → r us H Q
def MtS' (c : Ck) (X : Cx) (T : String) (r : V → List V → Hp → VK → Prop) (f : PV → List PV → VH → Res PV) : Prop := ∀ g h H x xs u us Q E, Rep (kx c X) g h.length x u → Reps (kx c X) g h.length xs us → RelH (kx c X) g h H → Post (kx c X) (Rep (kx c X)) g h.length Q E (f x xs h) → r u us H Q

def eBin (f : PV → PV → VH → Res PV) (ma mb : EM) : EM := fun σ h => (ma σ h).bind fun x h1 => (mb σ h1).bind fun y h2 => f x y h2
def eUn (f : PV → VH → Res PV) (ma : EM) : EM := fun σ h => (ma σ h).bind fun x h1 => f x h1
def aNil : AM := fun _ h => .ok [] h
def aCons (m : EM) (ms : AM) : AM := fun σ h => (m σ h).bind fun x h1 => (ms σ h1).bind fun xs h2 => .ok (x :: xs) h2
def eCall (f : List PV → VH → Res PV) (ms : AM) : EM := fun σ h => (ms σ h).bind fun xs h1 => f xs h1

theorem two_run {ta tb : TE} {ma mb : EM} {f : PV → PV → VH → Res PV} {R : V → V → Hp → Prop}
    (sa : ∀ g σ h τ H Q, RelS (kx c X) g h.length σ τ → RelH (kx c X) g h H → Post (kx c X) (Rep (kx c X)) g h.length Q (at_ W τ) (ma σ h) → ta τ H Q)
    (sb : ∀ g σ h τ H Q, RelS (kx c X) g h.length σ τ → RelH (kx c X) g h H → Post (kx c X) (Rep (kx c X)) g h.length Q (at_ W τ) (mb σ h) → tb τ H Q)
    {g : Gh} {σ : LS} {h : VH} {τ : L2.St} {H : Hp} {Q : VK} (rs : RelS (kx c X) g h.length σ τ) (rh : RelH (kx c X) g h H) (p : Post (kx c X) (Rep (kx c X)) g h.length Q (at_ W τ) (eBin f ma mb σ h))
    (k : ∀ g h H x y u v, Rep (kx c X) g h.length x u → Rep (kx c X) g h.length y v → RelH (kx c X) g h H → Post (kx c X) (Rep (kx c X)) g h.length Q (at_ W τ) (f x y h) → R u v H) : ta τ H fun x H1 => tb τ H1 fun y H2 => R x y H2 := by
  refine sa g σ h τ H _ rs rh ((Post.bind p).imp (fun u H1 ⟨g1, x, h1, m1, p1⟩ => ?_) fun _ _ _ z => z)
  refine sb g1 σ h1 τ H1 _ (rs.mono m1.le m1.len) m1.rel ((Post.bind p1).imp (fun v H2 ⟨g2, y, h2, m2, p2⟩ => ?_) fun _ _ _ z => z)
  exact k g2 h2 H2 x y u v (m1.rep.mono m2.le m2.len) m2.rep m2.rel p2
theorem SE.op {op : Operator} {r : R2} {f : PV → PV → VH → Res PV} {a b : Expr} {ma mb : EM} {pos : Pos} (ho : OpR X (binaryOp op) r) (hs : OpS c X r f) (ha : SE c X W a ma) (hb : SE c X W b mb) : SE c X W (.BinOp a op b pos) (eBin f ma mb) := by
  obtain ⟨ta, pa, sa⟩ := ha
  obtain ⟨tb, pb, sb⟩ := hb
  exact ⟨_, pe_op ho pa pb, fun g σ h τ H Q rs rh p => two_run sa sb rs rh p fun g h H x y u v rx ry rh p => hs g h H x y u v Q _ rx ry rh p⟩
theorem SE.cmp {op : CmpOp} {r : R2} {f : PV → PV → VH → Res PV} {a b : Expr} {ma mb : EM} {pos : Pos} (ho : OpR X (compareOp op) r) (hs : OpS c X r f) (ha : SE c X W a ma) (hb : SE c X W b mb) (hm : behindInMarks op b = false) : SE c X W (.Compare a [op] [b] pos) (eBin f ma mb) := by
  obtain ⟨ta, pa, sa⟩ := ha
  obtain ⟨tb, pb, sb⟩ := hb
  exact ⟨_, pe_cmpR ho pa pb hm, fun g σ h τ H Q rs rh p => two_run sa sb rs rh p fun g h H x y u v rx ry rh p => hs g h H x y u v Q _ rx ry rh p⟩
theorem SE.un {op : UnaryOp} {r : V → Hp → VK → Prop} {f : PV → VH → Res PV} {a : Expr} {ma : EM} {pos : Pos} (ho : UnR X (unaryOp op) r) (hs : UnS c X r f) (ha : SE c X W a ma) : SE c X W (.UnaryOp op a pos) (eUn f ma) := by
  obtain ⟨ta, pa, sa⟩ := ha
  refine ⟨_, pe_un ho pa, fun g σ h τ H Q rs rh p => ?_⟩
  exact sa g σ h τ H _ rs rh ((Post.bind p).imp (fun u H1 ⟨g1, x, h1, m1, p1⟩ => hs g1 h1 H1 x u Q _ m1.rep m1.rel p1) fun _ _ _ z => z)

/-- a value as a truth -/
def asB : PV → VH → Res Bool
  | .bl b, h => .ok b h
  | _, _ => .bad
def tVal (m : EM) : TM := fun σ h => (m σ h).bind asB
theorem asB_run {g : Gh} {h : VH} {H : Hp} {x : PV} {u : V} {Q : Bool → Hp → Prop} {E : XK} (rx : Rep (kx c X) g h.length x u) (rh : RelH (kx c X) g h H) (p : Post (kx c X) RepB g h.length Q E (asB x h)) : ∃ k, u = .bl k ∧ Q k H := by
  cases x with
  | bl b =>
    simp only [Rep] at rx
    exact ⟨b, rx, p g b H (Gh.le.refl _ _) (Nat.le_refl _) rh rfl⟩
  | _ => exact p.elim
theorem ST.cmp {op : CmpOp} {r : R2} {f : PV → PV → VH → Res PV} {a b : Expr} {ma mb : EM} {pos : Pos} (ho : OpR X (compareOp op) r) (hs : OpS c X r f) (ha : SE c X W a ma) (hb : SE c X W b mb) (hm : behindInMarks op b = false) : ST c X W (.Compare a [op] [b] pos) (tVal (eBin f ma mb)) := by
  obtain ⟨ta, pa, sa⟩ := ha
  obtain ⟨tb, pb, sb⟩ := hb
  refine ⟨_, pt_cmpR ho pa pb hm, fun g σ h τ H Q rs rh p => ?_⟩
  refine two_run (Q := fun x H' => ∃ k, x = .bl k ∧ Q k H') sa sb rs rh ((Post.bind p).imp (fun u H1 ⟨g1, x, h1, m1, p1⟩ => asB_run m1.rep m1.rel p1) fun _ _ _ z => z) fun g h H x y u v rx ry rh p => ?_
  exact hs g h H x y u v _ _ rx ry rh p
theorem ST.val {e : Expr} {m : EM} (hs : SE c X W e m) (he : ∀ whole, isTrue e X.env whole = (do let v ← whole; standAt e.pos; holding [v] (truthy v)) := by intro _; rfl) : ST c X W e (tVal m) := by
  obtain ⟨t, pe, s⟩ := hs
  refine ⟨_, pt_val pe he, fun g σ h τ H Q rs rh p => ?_⟩
  exact s g σ h τ H _ rs rh ((Post.bind p).imp (fun u H1 ⟨g1, x, h1, m1, p1⟩ => asB_run m1.rep m1.rel p1) fun _ _ _ z => z)

/-! ### names, constants -/
def eVar (i : Nat) : EM := fun σ h => match σ[i]? with
  | some (some v) => .ok v h
  | _ => .bad
def eC (v : PV) : EM := fun _ h => .ok v h
theorem SE.var (i : Nat) {x : Str} {pos : Pos} (hN : X.N[i]? = some x := by rfl) (hv : Vis X.env.scope x := by first | exact Or.inl rfl | exact Or.inr (Or.inl rfl) | exact Or.inr (Or.inr rfl)) (hd : (x == ("__debug__" : Str)) = false := by decide)
    (hcd : (x == ("__classdict__" : Str)) = false := by decide) : SE c X W (.Name x pos) (eVar i) := by
  refine ⟨_, pe_var hN hv hd hcd, fun g σ h τ H Q rs rh p => ?_⟩
  dsimp only [eVar] at p
  split at p
  · rename_i v e
    obtain ⟨u, e', r⟩ := rs.get i v e
    exact ⟨u, e', p g u H (Gh.le.refl _ _) (Nat.le_refl _) rh r⟩
  · exact p.elim
theorem const_run {v : PV} {u : V} {g : Gh} {h : VH} {H : Hp} {Q : VK} {E : XK} (rh : RelH (kx c X) g h H) (r : Rep (kx c X) g h.length v u) (p : Post (kx c X) (Rep (kx c X)) g h.length Q E (.ok v h)) : Q u H := p g u H (Gh.le.refl _ _) (Nat.le_refl _) rh r
theorem SE.int {i : Int} {j : Nat} {pos : Pos} : SE c X W (.Constant (.int i) j pos) (eC (.int i)) := ⟨_, pe_int, fun _ _ _ _ _ _ _ rh p => const_run rh (by simp only [Rep]) p⟩
theorem SE.bl {b : Bool} {j : Nat} {pos : Pos} : SE c X W (.Constant (.bool b) j pos) (eC (.bl b)) := ⟨_, pe_bl, fun _ _ _ _ _ _ _ rh p => const_run rh (by simp only [Rep]) p⟩
theorem SE.non {j : Nat} {pos : Pos} : SE c X W (.Constant .none j pos) (eC .non) := ⟨_, pe_non, fun _ _ _ _ _ _ _ rh p => const_run rh (by simp only [Rep]) p⟩
theorem SE.str {x : Str} {j : Nat} {pos : Pos} : SE c X W (.Constant (.str x) j pos) (eC (.str x)) := ⟨_, pe_str, fun _ _ _ _ _ _ _ rh p => const_run rh (by simp only [Rep]) p⟩
/-- a name of the module -/
theorem SE.glob {x : Str} {v : V} {u : Value} {w : PV} {pos : Pos} (hg : Gl X x) (hm : X.mg x = some u) (r : RelV v u) (rw : ∀ g n, Rep (kx c X) g n w v) (hd : (x == ("__debug__" : Str)) = false := by decide) : SE c X W (.Name x pos) (eC w) :=
  ⟨_, pe_glob hg hm r hd, fun _ _ _ _ _ _ _ rh p => const_run rh (rw _ _) p⟩
/-- a built-in type as a value -/
theorem SE.bty {x : Str} {T : String} {pos : Pos} (hg : Gl X x) (hm : X.mg x = none) (hv : bootBuiltins x = some (.type T)) (hn : x ≠ "__name__" := by decide) (hd : (x == ("__debug__" : Str)) = false := by decide) : SE c X W (.Name x pos) (eC (.ty T)) :=
  ⟨_, pe_bltn hg hm hv (v := .ty T) rfl hn hd, fun _ _ _ _ _ _ _ rh p => const_run rh (by simp only [Rep]) p⟩

/-! ### and, or, not, if else; chains -/
def tAndM (a b : TM) : TM := fun σ h => (a σ h).bind fun c h1 => if c = true then b σ h1 else .ok false h1
def tOrM (a b : TM) : TM := fun σ h => (a σ h).bind fun c h1 => if c = true then .ok true h1 else b σ h1
def tNotM (a : TM) : TM := fun σ h => (a σ h).bind fun c h1 => .ok (!c) h1
theorem SW.st {e : Expr} {m : TM} (h : SW c X W e m) : ST c X W e m := by
  obtain ⟨t, p, s⟩ := h
  exact ⟨t, p.pt, s⟩
variable {a b : Expr} {rest : List Expr} {pos : Pos} {ta tb : TM} {ma mb : EM}
theorem SW.and1 (ha : ST c X W a ta) : SW c X W (.BoolOp .And [a] pos) ta := by
  obtain ⟨t, p, s⟩ := ha
  exact ⟨t, pw_and1 p, s⟩
theorem SW.or1 (ha : ST c X W a ta) : SW c X W (.BoolOp .Or [a] pos) ta := by
  obtain ⟨t, p, s⟩ := ha
  exact ⟨t, pw_or1 p, s⟩
theorem SW.and (ha : ST c X W a ta) (hb : SW c X W (.BoolOp .And (b :: rest) pos) tb) : SW c X W (.BoolOp .And (a :: b :: rest) pos) (tAndM ta tb) := by
  obtain ⟨t, p, s⟩ := ha
  obtain ⟨t2, p2, s2⟩ := hb
  refine ⟨_, pw_and p p2, fun g σ h τ H Q rs rh q => ?_⟩
  refine s g σ h τ H _ rs rh ((Post.bind q).imp (fun c H1 ⟨g1, c', h1, m1, q1⟩ => ?_) fun _ _ _ z => z)
  obtain rfl : c = c' := m1.rep
  cases c with
  | true => exact s2 g1 σ h1 τ H1 Q (rs.mono m1.le m1.len) m1.rel q1
  | false => exact q1 g1 false H1 (Gh.le.refl _ _) (Nat.le_refl _) m1.rel rfl
theorem SW.or (ha : ST c X W a ta) (hb : SW c X W (.BoolOp .Or (b :: rest) pos) tb) : SW c X W (.BoolOp .Or (a :: b :: rest) pos) (tOrM ta tb) := by
  obtain ⟨t, p, s⟩ := ha
  obtain ⟨t2, p2, s2⟩ := hb
  refine ⟨_, pw_or p p2, fun g σ h τ H Q rs rh q => ?_⟩
  refine s g σ h τ H _ rs rh ((Post.bind q).imp (fun c H1 ⟨g1, c', h1, m1, q1⟩ => ?_) fun _ _ _ z => z)
  obtain rfl : c = c' := m1.rep
  cases c with
  | true => exact q1 g1 true H1 (Gh.le.refl _ _) (Nat.le_refl _) m1.rel rfl
  | false => exact s2 g1 σ h1 τ H1 Q (rs.mono m1.le m1.len) m1.rel q1
theorem ST.not (ha : ST c X W a ta) : ST c X W (.UnaryOp .Not a pos) (tNotM ta) := by
  obtain ⟨t, p, s⟩ := ha
  refine ⟨_, pt_not p, fun g σ h τ H Q rs rh q => ?_⟩
  refine s g σ h τ H _ rs rh ((Post.bind q).imp (fun c H1 ⟨g1, c', h1, m1, q1⟩ => ?_) fun _ _ _ z => z)
  obtain rfl : c = c' := m1.rep
  exact q1 g1 _ H1 (Gh.le.refl _ _) (Nat.le_refl _) m1.rel rfl
/-- as values -/
def eAndM (a b : EM) : EM := fun σ h => (a σ h).bind fun x h1 => (asB x h1).bind fun c h2 => if c = true then b σ h2 else .ok (.bl false) h2
def eOrM (a b : EM) : EM := fun σ h => (a σ h).bind fun x h1 => (asB x h1).bind fun c h2 => if c = true then .ok (.bl true) h2 else b σ h2
def eNotM (a : EM) : EM := fun σ h => (a σ h).bind fun x h1 => (asB x h1).bind fun c h2 => .ok (.bl (!c)) h2
theorem SE.one {op : BoolOp} (ha : SE c X W a ma) : SE c X W (.BoolOp op [a] pos) ma := by
  obtain ⟨t, p, s⟩ := ha
  exact ⟨t, pe_one p, s⟩
theorem asB_bind {γ δ : Type} {R : Gh → Nat → γ → δ → Prop} {g : Gh} {h : VH} {H : Hp} {x : PV} {u : V} {Q : δ → Hp → Prop} {E : XK} {k : Bool → VH → Res γ} (rx : Rep (kx c X) g h.length x u) (p : Post (kx c X) R g h.length Q E ((asB x h).bind k)) :
    ∃ d, x = .bl d ∧ u = .bl d ∧ Post (kx c X) R g h.length Q E (k d h) := by
  cases x with
  | bl b =>
    simp only [Rep] at rx
    exact ⟨b, rfl, rx, p⟩
  | _ => exact p.elim
theorem SE.and (ha : SE c X W a ma) (hb : SE c X W (.BoolOp .And (b :: rest) pos) mb) : SE c X W (.BoolOp .And (a :: b :: rest) pos) (eAndM ma mb) := by
  obtain ⟨t, p, s⟩ := ha
  obtain ⟨t2, p2, s2⟩ := hb
  refine ⟨_, pe_and p p2, fun g σ h τ H Q rs rh q => ?_⟩
  refine s g σ h τ H _ rs rh ((Post.bind q).imp (fun c H1 ⟨g1, c', h1, m1, q1⟩ => ?_) fun _ _ _ z => z)
  obtain ⟨d, rfl, rfl, q2⟩ := asB_bind (H := H1) m1.rep q1
  refine ⟨d, rfl, ?_⟩
  cases d with
  | true => exact s2 g1 σ h1 τ H1 Q (rs.mono m1.le m1.len) m1.rel q2
  | false => exact const_run m1.rel (by simp only [Rep]) q2
theorem SE.or (ha : SE c X W a ma) (hb : SE c X W (.BoolOp .Or (b :: rest) pos) mb) : SE c X W (.BoolOp .Or (a :: b :: rest) pos) (eOrM ma mb) := by
  obtain ⟨t, p, s⟩ := ha
  obtain ⟨t2, p2, s2⟩ := hb
  refine ⟨_, pe_or p p2, fun g σ h τ H Q rs rh q => ?_⟩
  refine s g σ h τ H _ rs rh ((Post.bind q).imp (fun c H1 ⟨g1, c', h1, m1, q1⟩ => ?_) fun _ _ _ z => z)
  obtain ⟨d, rfl, rfl, q2⟩ := asB_bind (H := H1) m1.rep q1
  refine ⟨d, rfl, ?_⟩
  cases d with
  | true => exact const_run m1.rel (by simp only [Rep]) q2
  | false => exact s2 g1 σ h1 τ H1 Q (rs.mono m1.le m1.len) m1.rel q2
theorem SE.not (ha : SE c X W a ma) : SE c X W (.UnaryOp .Not a pos) (eNotM ma) := by
  obtain ⟨t, p, s⟩ := ha
  refine ⟨_, pe_not p, fun g σ h τ H Q rs rh q => ?_⟩
  refine s g σ h τ H _ rs rh ((Post.bind q).imp (fun c H1 ⟨g1, c', h1, m1, q1⟩ => ?_) fun _ _ _ z => z)
  obtain ⟨d, rfl, rfl, q2⟩ := asB_bind (H := H1) m1.rep q1
  exact ⟨d, rfl, const_run m1.rel (by simp only [Rep]) q2⟩
def eIfM (c : TM) (a b : EM) : EM := fun σ h => (c σ h).bind fun k h1 => if k = true then a σ h1 else b σ h1
theorem SE.ite {ce : Expr} {tc : TM} (hc : ST c X W ce tc) (ha : SE c X W a ma) (hb : SE c X W b mb) : SE c X W (.IfExp ce a b pos) (eIfM tc ma mb) := by
  obtain ⟨t, p, s⟩ := hc
  obtain ⟨t1, p1, s1⟩ := ha
  obtain ⟨t2, p2, s2⟩ := hb
  refine ⟨_, pe_ifExp p p1 p2, fun g σ h τ H Q rs rh q => ?_⟩
  refine s g σ h τ H _ rs rh ((Post.bind q).imp (fun c H1 ⟨g1, c', h1, m1, q1⟩ => ?_) fun _ _ _ z => z)
  obtain rfl : c = c' := m1.rep
  cases c with
  | true => exact s1 g1 σ h1 τ H1 Q (rs.mono m1.le m1.len) m1.rel q1
  | false => exact s2 g1 σ h1 τ H1 Q (rs.mono m1.le m1.len) m1.rel q1
def eChain (f f' : PV → PV → VH → Res PV) (a b c : EM) : EM := fun σ h => (a σ h).bind fun x h1 => (b σ h1).bind fun y h2 => (f x y h2).bind fun z h3 => (asB z h3).bind fun k h4 => if k = true then (c σ h4).bind fun w h5 => f' y w h5 else .ok (.bl false) h4
theorem chain_run {r r' : R2} {f f' : PV → PV → VH → Res PV} {ta tb tc : TE} {ma mb mc : EM} (hs : OpS c X r f) (hs' : OpS c X r' f')
    (sa : ∀ g σ h τ H Q, RelS (kx c X) g h.length σ τ → RelH (kx c X) g h H → Post (kx c X) (Rep (kx c X)) g h.length Q (at_ W τ) (ma σ h) → ta τ H Q)
    (sb : ∀ g σ h τ H Q, RelS (kx c X) g h.length σ τ → RelH (kx c X) g h H → Post (kx c X) (Rep (kx c X)) g h.length Q (at_ W τ) (mb σ h) → tb τ H Q)
    (sc : ∀ g σ h τ H Q, RelS (kx c X) g h.length σ τ → RelH (kx c X) g h H → Post (kx c X) (Rep (kx c X)) g h.length Q (at_ W τ) (mc σ h) → tc τ H Q)
    {g : Gh} {σ : LS} {h : VH} {τ : L2.St} {H : Hp} {Q : VK} (rs : RelS (kx c X) g h.length σ τ) (rh : RelH (kx c X) g h H) (p : Post (kx c X) (Rep (kx c X)) g h.length Q (at_ W τ) (eChain f f' ma mb mc σ h)) : tChain r r' ta tb tc τ H Q := by
  refine sa g σ h τ H _ rs rh ((Post.bind p).imp (fun u H1 ⟨g1, x, h1, m1, p1⟩ => ?_) fun _ _ _ z => z)
  refine sb g1 σ h1 τ H1 _ (rs.mono m1.le m1.len) m1.rel ((Post.bind p1).imp (fun v H2 ⟨g2, y, h2, m2, p2⟩ => ?_) fun _ _ _ z => z)
  have le2 := m1.le.trans m2.le m1.len
  have ln2 := Nat.le_trans m1.len m2.len
  refine hs g2 h2 H2 x y u v _ _ (m1.rep.mono m2.le m2.len) m2.rep m2.rel ((Post.bind p2).imp (fun z H3 ⟨g3, z', h3, m3, p3⟩ => ?_) fun _ _ _ z => z)
  obtain ⟨d, rfl, rfl, p4⟩ := asB_bind (H := H3) m3.rep p3
  refine ⟨d, rfl, ?_⟩
  cases d with
  | true =>
    rw [if_pos rfl]
    refine sc g3 σ h3 τ H3 _ (rs.mono (le2.trans m3.le ln2) (Nat.le_trans ln2 m3.len)) m3.rel ((Post.bind p4).imp (fun w H5 ⟨g5, w', h5, m5, p5⟩ => ?_) fun _ _ _ z => z)
    exact hs' g5 h5 H5 y w' v w Q _ ((m2.rep.mono m3.le m3.len).mono m5.le m5.len) m5.rep m5.rel p5
  | false =>
    rw [if_neg Bool.false_ne_true]
    exact const_run m3.rel (by simp only [Rep]) p4
theorem SE.chain {op op' : CmpOp} {r r' : R2} {f f' : PV → PV → VH → Res PV} {ce : Expr} {mc : EM} (ho : OpR X (compareOp op) r) (ho' : OpR X (compareOp op') r') (hs : OpS c X r f) (hs' : OpS c X r' f') (ha : SE c X W a ma) (hb : SE c X W b mb) (hc : SE c X W ce mc)
    (hm : lastMarks [op, op'] [b, ce] = false := by with_unfolding_all rfl) : SE c X W (.Compare a [op, op'] [b, ce] pos) (eChain f f' ma mb mc) := by
  obtain ⟨ta, pa, sa⟩ := ha
  obtain ⟨tb, pb, sb⟩ := hb
  obtain ⟨tc, pc, sc⟩ := hc
  exact ⟨_, pe_chain ho ho' pa pb pc hm, fun g σ h τ H Q rs rh p => chain_run hs hs' sa sb sc rs rh p⟩
theorem ST.chain {op op' : CmpOp} {r r' : R2} {f f' : PV → PV → VH → Res PV} {ce : Expr} {mc : EM} (ho : OpR X (compareOp op) r) (ho' : OpR X (compareOp op') r') (hs : OpS c X r f) (hs' : OpS c X r' f') (ha : SE c X W a ma) (hb : SE c X W b mb) (hc : SE c X W ce mc)
    (hm : lastMarks [op, op'] [b, ce] = false := by with_unfolding_all rfl) : ST c X W (.Compare a [op, op'] [b, ce] pos) (tVal (eChain f f' ma mb mc)) := by
  obtain ⟨ta, pa, sa⟩ := ha
  obtain ⟨tb, pb, sb⟩ := hb
  obtain ⟨tc, pc, sc⟩ := hc
  refine ⟨_, pt_chain ho ho' pa pb pc hm, fun g σ h τ H Q rs rh p => ?_⟩
  exact chain_run (Q := fun x H' => ∃ k, x = .bl k ∧ Q k H') hs hs' sa sb sc rs rh ((Post.bind p).imp (fun u H1 ⟨g1, x, h1, m1, p1⟩ => asB_run m1.rep m1.rel p1) fun _ _ _ z => z)

/-! ### argument lists, built-in calls -/
theorem SA.nil : SA c X W [] aNil := ⟨fun σ h xs h' e => by cases e; rfl, _, pa_nil, fun g σ h τ H Q rs rh p => p g [] H (Gh.le.refl _ _) (Nat.le_refl _) rh Reps.nil⟩
theorem SA.cons {e : Expr} {es : List Expr} {m : EM} {ms : AM} (he : SE c X W e m) (hs : SA c X W es ms) (hst : starEach (e :: es) X.env = (false, eval e X.env) :: starEach es X.env := by rfl) : SA c X W (e :: es) (aCons m ms) := by
  obtain ⟨t, p, s⟩ := he
  obtain ⟨l2, t2, p2, s2⟩ := hs
  refine ⟨fun σ h xs h' e => ?_, _, pa_cons p p2 hst, fun g σ h τ H Q rs rh q => ?_⟩
  · dsimp only [aCons] at e
    cases e1 : m σ h with
    | ok x h1 =>
      rw [e1, Res.bind_ok] at e
      cases e2 : ms σ h1 with
      | ok ys h2 =>
        rw [e2, Res.bind_ok] at e
        cases e
        rw [List.length_cons, List.length_cons, l2 _ _ _ _ e2]
      | exc a b => rw [e2] at e; cases e
      | bad => rw [e2] at e; cases e
    | exc a b => rw [e1] at e; cases e
    | bad => rw [e1] at e; cases e
  refine s g σ h τ H _ rs rh ((Post.bind q).imp (fun u H1 ⟨g1, x, h1, m1, q1⟩ => ?_) fun _ _ _ z => z)
  refine s2 g1 σ h1 τ H1 _ (rs.mono m1.le m1.len) m1.rel ((Post.bind q1).imp (fun us H2 ⟨g2, xs, h2, m2, q2⟩ => ?_) fun _ _ _ z => z)
  exact q2 g2 _ H2 (Gh.le.refl _ _) (Nat.le_refl _) m2.rel (Reps.cons (m1.rep.mono m2.le m2.len) m2.rep)
theorem call_run {r : List V → Hp → VK → Prop} {f : List PV → VH → Res PV} {t : TA} {ms : AM} (hs : CallS c X r f)
    (s : ∀ g σ h τ H Q, RelS (kx c X) g h.length σ τ → RelH (kx c X) g h H → Post (kx c X) (Reps (kx c X)) g h.length Q (at_ W τ) (ms σ h) → t τ H Q) {g : Gh} {σ : LS} {h : VH} {τ : L2.St} {H : Hp} {Q : VK} (rs : RelS (kx c X) g h.length σ τ) (rh : RelH (kx c X) g h H) (p : Post (kx c X) (Rep (kx c X)) g h.length Q (at_ W τ) (eCall f ms σ h)) : tCB r t τ H Q :=
  s g σ h τ H _ rs rh ((Post.bind p).imp (fun u H1 ⟨g1, x, h1, m1, p1⟩ => hs g1 h1 H1 x u Q _ m1.rep m1.rel p1) fun _ _ _ z => z)
theorem SE.callB {x : Str} {id : String} {r : List V → Hp → VK → Prop} {f : List PV → VH → Res PV} {e : Expr} {es : List Expr} {ms : AM} {p : Pos} (hc : CallR X (.builtin id) r) (hs : CallS c X r f) (hg : Gl X x) (hm : X.mg x = none) (hv : bootBuiltins x = some (.builtin id)) (ha : SA c X W (e :: es) ms)
    (hn : x ≠ "__name__" := by decide) (hdb : (x == ("__debug__" : Str)) = false := by decide) (he : starEach (e :: es) X.env = (false, eval e X.env) :: starEach es X.env := by rfl) (hpl : (backTo pos (starEach es X.env)).any (·.1) = false := by rfl) : SE c X W (.Call (.Name x p) (e :: es) [] pos) (eCall f ms) := by
  obtain ⟨_, t, pa, s⟩ := ha
  exact ⟨_, pe_callB hc hg hm hv pa hn hdb he hpl, fun g σ h τ H Q rs rh p => call_run hs s rs rh p⟩
theorem SE.callTy {x : Str} {T : String} {r : List V → Hp → VK → Prop} {f : List PV → VH → Res PV} {e : Expr} {es : List Expr} {ms : AM} {p : Pos} (hc : CallR X (.type T) r) (hs : CallS c X r f) (hg : Gl X x) (hm : X.mg x = none) (hv : bootBuiltins x = some (.type T)) (ha : SA c X W (e :: es) ms)
    (hn : x ≠ "__name__" := by decide) (hdb : (x == ("__debug__" : Str)) = false := by decide) (he : starEach (e :: es) X.env = (false, eval e X.env) :: starEach es X.env := by rfl) (hpl : (backTo pos (starEach es X.env)).any (·.1) = false := by rfl) : SE c X W (.Call (.Name x p) (e :: es) [] pos) (eCall f ms) := by
  obtain ⟨_, t, pa, s⟩ := ha
  exact ⟨_, pe_callTy hc hg hm hv pa hn hdb he hpl, fun g σ h τ H Q rs rh p => call_run hs s rs rh p⟩
end
end Pm
namespace Pm
open PySem PySem.Spec L2 PyProof.Rows

/-! ### statements -/
def sNil : SM := fun σ h => .nx σ h
def sCons (a b : SM) : SM := fun σ h => (a σ h).bind b
def sDrop (m : EM) : SM := fun σ h => (m σ h).then σ fun _ h1 => .nx σ h1
def sRet (m : EM) : SM := fun σ h => (m σ h).then σ fun v h1 => .rt v h1
def sRetN : SM := fun _ h => .rt .non h
def sBrk : SM := fun σ h => .bk σ h
def sCnt : SM := fun σ h => .ct σ h
def sIf (c : TM) (a b : SM) : SM := fun σ h => (c σ h).then σ fun k h1 => if k = true then a σ h1 else b σ h1
def sSet (i : Nat) (m : EM) : SM := fun σ h => (m σ h).then σ fun v h1 => .nx (σ.set i (some v)) h1
section
variable {c : Ck} {X : Cx} {W : WX} {pos : Pos}
theorem SS.nil : SS c X W [] sNil := ⟨_, pss_nil, fun g σ h τ H D rs rh p => p g τ H (Gh.le.refl _ _) (Nat.le_refl _) rh rs⟩
theorem PostS.bind {K : Kc} {g : Gh} {n : Nat} {D : Ends} {r : SR} {m : SM} (p : PostS K g n D W (r.bind m)) :
    PostS K g n { D with nx := fun τ H => ∃ g1 σ h1, g.le n g1 ∧ n ≤ h1.length ∧ RelH K g1 h1 H ∧ RelS K g1 h1.length σ τ ∧ PostS K g1 h1.length D W (m σ h1) } W r := by
  cases r with
  | nx σ h' => exact fun g' τ H' l hn rh rs => ⟨g', σ, h', l, hn, rh, rs, PostS.up p l hn⟩
  | bk σ h' => exact p
  | ct σ h' => exact p
  | rt v h' => exact p
  | xc e σ h' => exact p
  | bad => exact p
theorem PostS.imp {K : Kc} {g : Gh} {n : Nat} {D D' : Ends} {W' : WX} {r : SR} (p : PostS K g n D W r) (h1 : ∀ τ H, D.nx τ H → D'.nx τ H) (h2 : ∀ v H, D.rt v H → D'.rt v H) (h3 : ∀ τ H, D.bk τ H → D'.bk τ H) (h4 : ∀ τ H, D.ct τ H → D'.ct τ H)
    (h5 : ∀ c d τ H, W c d τ H → W' c d τ H) : PostS K g n D' W' r := by
  cases r with
  | nx σ h' => exact fun g' τ H' l hn rh rs => h1 _ _ (p g' τ H' l hn rh rs)
  | bk σ h' => exact fun g' τ H' l hn rh rs => h3 _ _ (p g' τ H' l hn rh rs)
  | ct σ h' => exact fun g' τ H' l hn rh rs => h4 _ _ (p g' τ H' l hn rh rs)
  | rt v h' => exact fun g' τ H' l hn rh rs => h2 _ _ (p g' τ H' l hn rh rs)
  | xc e σ h' => exact fun g' c d τ H' l hn rh rs rx => h5 _ _ _ _ (p g' c d τ H' l hn rh rs rx)
  | bad => exact p
theorem SS.cons {s : Stmt} {ss : List Stmt} {m ms : SM} (h1 : S1 c X W s m) (h2 : SS c X W ss ms) : SS c X W (s :: ss) (sCons m ms) := by
  obtain ⟨t, p, s1⟩ := h1
  obtain ⟨t2, p2, s2⟩ := h2
  refine ⟨_, pss_cons p p2, fun g σ h τ H D rs rh q => ?_⟩
  refine s1 g σ h τ H _ rs rh (PostS.imp (PostS.bind q) (fun τ1 H1 hh => ?_) (fun _ _ z => z) (fun _ _ z => z) (fun _ _ z => z) (fun _ _ _ _ z => z))
  obtain ⟨g1, σ1, h1, l, hn, rh1, rs1, q1⟩ := hh
  exact s2 g1 σ1 h1 τ1 H1 D rs1 rh1 q1
theorem SS.one {s : Stmt} {m : SM} (h1 : S1 c X W s m) : SS c X W [s] m := by
  obtain ⟨t, p, s1⟩ := h1
  exact ⟨t, pss_one p, s1⟩
theorem S1.pass : S1 c X W (.Pass pos) sNil := ⟨_, ps_pass, fun g σ h τ H D rs rh p => p g τ H (Gh.le.refl _ _) (Nat.le_refl _) rh rs⟩
theorem S1.brk : S1 c X W (.Break pos) sBrk := ⟨_, ps_break, fun g σ h τ H D rs rh p => p g τ H (Gh.le.refl _ _) (Nat.le_refl _) rh rs⟩
theorem S1.cnt : S1 c X W (.Continue pos) sCnt := ⟨_, ps_continue, fun g σ h τ H D rs rh p => p g τ H (Gh.le.refl _ _) (Nat.le_refl _) rh rs⟩
theorem S1.doc {x : Str} {j : Nat} {pos' : Pos} : S1 c X W (.Expr (.Constant (.str x) j pos) pos') sNil := ⟨_, ps_doc, fun g σ h τ H D rs rh p => p g τ H (Gh.le.refl _ _) (Nat.le_refl _) rh rs⟩
theorem S1.drop {e : Expr} {m : EM} (he : SE c X W e m) (hs : swapsWith e none pos.line X.env = pure false := by rfl) : S1 c X W (.Expr e pos) (sDrop m) := by
  obtain ⟨t, p, s⟩ := he
  refine ⟨_, ps_expr p hs, fun g σ h τ H D rs rh q => ?_⟩
  refine s g σ h τ H _ rs rh ((PostS.then rs q).imp (fun u H1 ⟨g1, x, h1, m1, q1⟩ => ?_) fun _ _ _ z => z)
  exact q1 g1 τ H1 (Gh.le.refl _ _) (Nat.le_refl _) m1.rel (rs.mono m1.le m1.len)
theorem S1.ret {e : Expr} {m : EM} (he : SE c X W e m) : S1 c X W (.Return (some e) pos) (sRet m) := by
  obtain ⟨t, p, s⟩ := he
  refine ⟨_, ps_ret p, fun g σ h τ H D rs rh q => ?_⟩
  refine s g σ h τ H _ rs rh ((PostS.then rs q).imp (fun u H1 ⟨g1, x, h1, m1, q1⟩ => ?_) fun _ _ _ z => z)
  exact q1 g1 u H1 (Gh.le.refl _ _) (Nat.le_refl _) m1.rel m1.rep
theorem S1.retN : S1 c X W (.Return none pos) sRetN := ⟨_, ps_retN, fun g σ h τ H D rs rh p => p g .non H (Gh.le.refl _ _) (Nat.le_refl _) rh (by simp only [Rep])⟩
theorem S1.ite {e : Expr} {a b : List Stmt} {mt : TM} {ma mb : SM} (hc : ST c X W e mt) (ha : SS c X W a ma) (hb : SS c X W b mb) : S1 c X W (.If e a b pos) (sIf mt ma mb) := by
  obtain ⟨t, p, s⟩ := hc
  obtain ⟨t1, p1, s1⟩ := ha
  obtain ⟨t2, p2, s2⟩ := hb
  refine ⟨_, ps_if p p1 p2, fun g σ h τ H D rs rh q => ?_⟩
  refine s g σ h τ H _ rs rh ((PostS.then rs q).imp (fun k H1 ⟨g1, k', h1, m1, q1⟩ => ?_) fun _ _ _ z => z)
  obtain rfl : k = k' := m1.rep
  cases k with
  | true => exact s1 g1 σ h1 τ H1 D (rs.mono m1.le m1.len) m1.rel q1
  | false => exact s2 g1 σ h1 τ H1 D (rs.mono m1.le m1.len) m1.rel q1
theorem S1.set {i : Nat} {x : Str} {e : Expr} {m : EM} {pos' : Pos} (hN : X.N.Nodup) (hi : X.N[i]? = some x) (hx : Loc X.env.scope x) (he : SE c X W e m) (hs : swapsWith e (some (.Name x pos')) pos.line X.env = pure false := by rfl)
    (hf : X.fn x = true ∨ X.env.scope.names.lookup x = some .local := by first | exact .inl rfl | exact .inr rfl | assumption) : S1 c X W (.Assign [.Name x pos'] e pos) (sSet i m) := by
  obtain ⟨t, p, s⟩ := he
  refine ⟨_, ps_set hN hi hx p hs hf, fun g σ h τ H D rs rh q => ?_⟩
  refine s g σ h τ H _ rs rh ((PostS.then rs q).imp (fun u H1 ⟨g1, x, h1, m1, q1⟩ => ?_) fun _ _ _ z => z)
  exact q1 g1 _ H1 (Gh.le.refl _ _) (Nat.le_refl _) m1.rel ((rs.mono m1.le m1.len).set i m1.rep)

/-! ### targets -/
abbrev GM := PV → LS → VH → Res LS
abbrev RepT (K : Kc) : Gh → Nat → LS → L2.St → Prop := fun g n σ τ => RelS K g n σ τ
abbrev noX : XK := fun _ _ _ => False
def Res.sr : Res LS → SR
  | .ok σ h => .nx σ h
  | _ => .bad
@[simp] theorem Res.sr_ok (σ : LS) (h : VH) : (Res.ok σ h).sr = .nx σ h := (rfl)
@[simp] theorem Res.sr_bad : (Res.bad : Res LS).sr = .bad := (rfl)
@[simp] theorem Res.sr_exc (e : PX) (h : VH) : (Res.exc e h : Res LS).sr = .bad := (rfl)
theorem PostS.sr {K : Kc} {g : Gh} {n : Nat} {D : Ends} {W : WX} {r : Res LS} (p : PostS K g n D W r.sr) : Post K (RepT K) g n D.nx noX r := by
  cases r with
  | ok σ h' => exact fun g' τ H' l hn rh rs => p g' τ H' l hn rh rs
  | exc e h' => exact p.elim
  | bad => exact p
def SG (c : Ck) (X : Cx) (e : Expr) (m : GM) : Prop := ∃ t, PG X e t ∧ ∀ g σ h τ H v u N, RelS (kx c X) g h.length σ τ → RelH (kx c X) g h H → Rep (kx c X) g h.length v u → Post (kx c X) (RepT (kx c X)) g h.length N noX (m v σ h) → t u τ H N
def gSlot (i : Nat) : GM := fun v σ h => .ok (σ.set i (some v)) h
theorem SG.name {i : Nat} {x : Str} (hN : X.N.Nodup) (hi : X.N[i]? = some x) (hx : Loc X.env.scope x) (hf : X.fn x = true ∨ X.env.scope.names.lookup x = some .local := by first | exact .inl rfl | exact .inr rfl | assumption) : SG c X (.Name x pos) (gSlot i) :=
  ⟨_, pg_name hN hi hx hf, fun g σ h τ H v u N rs rh rv q => q g _ H (Gh.le.refl _ _) (Nat.le_refl _) rh (rs.set i rv)⟩
/-- the items of a tuple: (a, b, ..) = v -/
abbrev GMs := List PV → LS → VH → Res LS
def SGs (c : Ck) (X : Cx) (es : List Expr) (m : GMs) : Prop := ∃ t, PGs X es t ∧ ∀ g σ h τ H vs us N, RelS (kx c X) g h.length σ τ → RelH (kx c X) g h H → Reps (kx c X) g h.length vs us → Post (kx c X) (RepT (kx c X)) g h.length N noX (m vs σ h) → t us τ H N
def gNil' : GMs := fun vs σ h => match vs with
  | [] => .ok σ h
  | _ => .bad
def gCons' (m : GM) (ms : GMs) : GMs := fun vs σ h => match vs with
  | v :: r => (m v σ h).bind fun σ1 h1 => ms r σ1 h1
  | [] => .bad
@[simp] theorem gNil'_nil (σ : LS) (h : VH) : gNil' [] σ h = .ok σ h := (rfl)
@[simp] theorem gCons'_cons (m : GM) (ms : GMs) (v : PV) (r : List PV) (σ : LS) (h : VH) : gCons' m ms (v :: r) σ h = (m v σ h).bind fun σ1 h1 => ms r σ1 h1 := (rfl)
theorem SGs.nil : SGs c X [] gNil' := by
  refine ⟨_, pgs_nil, fun g σ h τ H vs us N rs rh rv q => ?_⟩
  cases vs with
  | nil =>
    simp only [Reps] at rv
    exact ⟨rv, q g τ H (Gh.le.refl _ _) (Nat.le_refl _) rh rs⟩
  | cons v r => exact q.elim
theorem SGs.cons {e : Expr} {es : List Expr} {m : GM} {ms : GMs} (h1 : SG c X e m) (h2 : SGs c X es ms) (hs : (assignEach (e :: es) X.env).map (·.2) = assign e X.env :: (assignEach es X.env).map (·.2) := by rfl) : SGs c X (e :: es) (gCons' m ms) := by
  obtain ⟨t, p, s⟩ := h1
  obtain ⟨t2, p2, s2⟩ := h2
  refine ⟨_, pgs_cons p p2 hs, fun g σ h τ H vs us N rs rh rv q => ?_⟩
  cases vs with
  | nil => exact q.elim
  | cons v r =>
    simp only [Reps] at rv
    obtain ⟨u, us', rfl, r1, r2⟩ := rv
    refine ⟨u, us', rfl, ?_⟩
    refine s g σ h τ H v u _ rs rh r1 ((Post.bind q).imp (fun τ1 H1 ⟨g1, σ1, h1, m1, q1⟩ => ?_) fun _ _ _ z => z)
    exact s2 g1 σ1 h1 τ1 H1 r us' N m1.rep m1.rel (r2.mono m1.le m1.len) q1
def gTupM (n : Nat) (ms : GMs) : GM := fun v σ h => match v with
  | .tup xs => if xs.length = n then ms xs σ h else .bad
  | _ => .bad
@[simp] theorem gTupM_tup (n : Nat) (ms : GMs) (xs : List PV) (σ : LS) (h : VH) : gTupM n ms (.tup xs) σ h = if xs.length = n then ms xs σ h else .bad := (rfl)
theorem SG.tup {es : List Expr} {k : Nat} {ms : GMs} {n : Nat} (hc : X.calm = true) (hs : SGs c X es ms) (hn : (assignEach es X.env).length = n := by rfl) (hst : (assignEach es X.env).findIdx? (·.1) = none := by rfl) : SG c X (.Tuple es k pos) (gTupM n ms) := by
  obtain ⟨t, p, s⟩ := hs
  refine ⟨_, pg_tup hc p hn hst, fun g σ h τ H v u N rs rh rv q => ?_⟩
  cases v with
  | tup xs =>
    simp only [Rep] at rv
    obtain ⟨a, us, rfl, sq, rr⟩ := rv
    rw [gTupM_tup] at q
    split at q
    · rename_i e
      exact ⟨a, us, rfl, .inl (.inl (rh.same _ _ sq)), rr.length.trans e, s g σ h τ H xs us N rs rh rr q⟩
    · exact q.elim
  | _ => exact q.elim
def sAsg (m : EM) (gm : GM) : SM := fun σ h => (m σ h).then σ fun v h1 => (gm v σ h1).sr
theorem S1.asg {tg e : Expr} {m : EM} {gm : GM} (he : SE c X W e m) (hg : SG c X tg gm) (hs : swapsWithSole [tg] e pos.line X.env = pure false := by rfl) (hw : swappedStores [tg] e X.env = pure none := by rfl)
    (h1 : (assignEach [tg] X.env).map (·.2) = [assign tg X.env] := by rfl) : S1 c X W (.Assign [tg] e pos) (sAsg m gm) := by
  obtain ⟨t, p, s⟩ := he
  obtain ⟨t2, p2, s2⟩ := hg
  refine ⟨_, ps_asg p p2 hs hw h1, fun g σ h τ H D rs rh q => ?_⟩
  refine s g σ h τ H _ rs rh ((PostS.then rs q).imp (fun u H1 ⟨g1, x, h1, m1, q1⟩ => ?_) fun _ _ _ z => z)
  exact s2 g1 σ h1 τ H1 x u _ (rs.mono m1.le m1.len) m1.rel m1.rep (PostS.sr q1)

/-! ### for, while -/
structure Src where
  xs : List PV
  ck : List (Nat × List PV)
def ckOk (ck : List (Nat × List PV)) (h : VH) : Prop := ∀ p ∈ ck, h[p.1]? = some (.lst p.2)
@[simp] theorem ckOk_nil (h : VH) : ckOk [] h = True := by simp [ckOk]
/-- what a walk gives is as told -/
def SrcOk (K : Kc) (g0 : Gh) (n0 : Nat) (s : Src) (J : It) : Prop := ∃ (Gp : Hp → Prop) (Y : Nat → Hp → V → Hp → Prop), Walk J s.xs.length Gp Y ∧
  (∀ g h H, g0.le0 n0 g → n0 ≤ h.length → RelH K g h H → ckOk s.ck h → Gp H) ∧
  (∀ i x g h H H', g0.le0 n0 g → n0 ≤ h.length → RelH K g h H → ckOk s.ck h → s.xs[i]? = some x → ∀ u, Y i H u H' → ∃ g', g.le h.length g' ∧ RelH K g' h H' ∧ Rep K g' h.length x u)
def SI (c : Ck) (X : Cx) (W : WX) (tg it : Expr) (m : LS → VH → Res Src) : Prop := ∃ t, PI X tg it t ∧ ∀ g σ h τ H R, RelS (kx c X) g h.length σ τ → RelH (kx c X) g h H → Post (kx c X) (SrcOk (kx c X)) g h.length R (at_ W τ) (m σ h) → t τ H R
open Classical in
noncomputable def forL (ck : List (Nat × List PV)) (gm : GM) (body : SM) : List PV → SM
  | [], σ, h => if ckOk ck h then .nx σ h else .bad
  | x :: xs, σ, h => if ckOk ck h then
      match (gm x σ h).sr.bind body with
      | .nx σ' h' => forL ck gm body xs σ' h'
      | .ct σ' h' => forL ck gm body xs σ' h'
      | .bk σ' h' => .nx σ' h'
      | .rt v h' => .rt v h'
      | .xc e σ' h' => .xc e σ' h'
      | .bad => .bad
    else .bad
noncomputable def sFor (src : LS → VH → Res Src) (gm : GM) (body : SM) : SM := fun σ h => (src σ h).then σ fun s h1 => forL s.ck gm body s.xs σ h1
noncomputable def whileL (t : TM) (body : SM) : Nat → SM
  | 0, _, _ => .bad
  | n + 1, σ, h => (t σ h).then σ fun k h1 => if k = true then
      match body σ h1 with
      | .nx σ' h' => whileL t body n σ' h'
      | .ct σ' h' => whileL t body n σ' h'
      | .bk σ' h' => .nx σ' h'
      | .rt v h' => .rt v h'
      | .xc e σ' h' => .xc e σ' h'
      | .bad => .bad
    else .nx σ h1

theorem PostS.loop {K : Kc} {g : Gh} {n : Nat} {D : Ends} {W : WX} {r : SR} {k : LS → VH → SR}
    (p : PostS K g n D W (match r with
      | .nx σ' h' => k σ' h'
      | .ct σ' h' => k σ' h'
      | .bk σ' h' => .nx σ' h'
      | .rt v h' => .rt v h'
      | .xc e σ' h' => .xc e σ' h'
      | .bad => .bad)) {N : L2.St → Hp → Prop} (hN : ∀ g1 σ h1 τ H, g.le n g1 → n ≤ h1.length → RelH K g1 h1 H → RelS K g1 h1.length σ τ → PostS K g1 h1.length D W (k σ h1) → N τ H) :
    PostS K g n { D with nx := N, ct := N, bk := D.nx } W r := by
  cases r with
  | nx σ h' => exact fun g' τ H' l hn rh rs => hN g' σ h' τ H' l hn rh rs (PostS.up p l hn)
  | ct σ h' => exact fun g' τ H' l hn rh rs => hN g' σ h' τ H' l hn rh rs (PostS.up p l hn)
  | bk σ h' => exact p
  | rt v h' => exact p
  | xc e σ h' => exact p
  | bad => exact p
theorem S1.for {tg it : Expr} {body : List Stmt} {ms : LS → VH → Res Src} {gm : GM} {mb : SM} (hp : PassesOwn (model X.prog X.w) X.A X.env X.xe) (hc : X.calm = true) (hi : SI c X W tg it ms) (hg : SG c X tg gm) (hb : SS c X W body mb)
    (hs : ∀ x, foldedSetIterable it X.env x = pure x := by intro _; rfl) : S1 c X W (.For tg it body [] pos) (sFor ms gm mb) := by
  obtain ⟨t, p, s⟩ := hi
  obtain ⟨tg', pg, sg⟩ := hg
  obtain ⟨tb, pb, sb⟩ := hb
  refine ⟨_, ps_for hp hc p pg pb hs, fun g σ h τ H D rs rh q => ?_⟩
  refine s g σ h τ H _ rs rh ((PostS.then rs q).imp (fun J H1 ⟨g1, src, h1, m1, q1⟩ => ?_) fun _ _ _ z => z)
  obtain ⟨Gp, Y, wk, hG, hY⟩ := m1.rep
  refine for_it wk (fun i τ' H' => ∃ g' σ' h', g1.le h1.length g' ∧ h1.length ≤ h'.length ∧ RelH (kx c X) g' h' H' ∧ RelS (kx c X) g' h'.length σ' τ' ∧ PostS (kx c X) g' h'.length D W (forL src.ck gm mb (src.xs.drop i) σ' h'))
    ⟨g1, σ, h1, Gh.le.refl _ _, Nat.le_refl _, m1.rel, rs.mono m1.le m1.len, q1⟩ (fun i τ' H' hi hh => ?_) (fun i x τ' H2 H3 hi hh hy => ?_) fun τ' H' hh => ?_
  · obtain ⟨g', σ', h', l, hn, rh', rs', q'⟩ := hh
    refine hG g' h' H' l.to0 hn rh' ?_
    cases hd : src.xs.drop i with
    | nil =>
      rw [hd] at q'
      unfold forL at q'
      split at q'
      · assumption
      · exact q'.elim
    | cons y ys =>
      rw [hd] at q'
      unfold forL at q'
      split at q'
      · assumption
      · exact q'.elim
  · obtain ⟨g', σ', h', l, hn, rh', rs', q'⟩ := hh
    have hx : src.xs.drop i = src.xs[i] :: src.xs.drop (i + 1) := List.drop_eq_getElem_cons hi
    rw [hx] at q'
    unfold forL at q'
    split at q'
    · rename_i hck
      obtain ⟨g2, l2, rh2, rx⟩ := hY i _ g' h' H2 H3 l.to0 hn rh' hck (List.getElem?_eq_getElem hi) x hy
      have q2 := PostS.up q' l2 (Nat.le_refl _)
      refine sg g2 σ' h' τ' H3 _ x _ (rs'.mono l2 (Nat.le_refl _)) rh2 rx ?_
      have q3 := PostS.loop (N := fun τ' H' => ∃ g' σ' h', g1.le h1.length g' ∧ h1.length ≤ h'.length ∧ RelH (kx c X) g' h' H' ∧ RelS (kx c X) g' h'.length σ' τ' ∧ PostS (kx c X) g' h'.length D W (forL src.ck gm mb (src.xs.drop (i + 1)) σ' h')) q2
        fun g3 σ3 h3 τ3 H4 l3 hn3 rh3 rs3 q4 => ⟨g3, σ3, h3, (l.trans l2 hn).trans l3 hn, Nat.le_trans hn hn3, rh3, rs3, q4⟩
      refine (PostS.sr (PostS.bind q3)).imp (fun τ3 H4 hh => ?_) fun _ _ _ z => z
      obtain ⟨g4, σ4, h4, l4, hn4, rh4, rs4, q5⟩ := hh
      exact sb g4 σ4 h4 τ3 H4 _ rs4 rh4 q5
    · exact q'.elim
  · obtain ⟨g', σ', h', l, hn, rh', rs', q'⟩ := hh
    rw [List.drop_length] at q'
    unfold forL at q'
    split at q'
    · exact q' g' τ' H' (Gh.le.refl _ _) (Nat.le_refl _) rh' rs'
    · exact q'.elim
theorem S1.while {t : Expr} {body : List Stmt} {mt : TM} {mb : SM} (n : Nat) (hp : PassesOwn (model X.prog X.w) X.A X.env X.xe) (ht : ST c X W t mt) (hb : SS c X W body mb) : S1 c X W (.While t body [] pos) (whileL mt mb n) := by
  obtain ⟨tt, pt, st⟩ := ht
  obtain ⟨tb, pb, sb⟩ := hb
  refine ⟨_, ps_while hp pt pb, fun g σ h τ H D rs rh q => ?_⟩
  refine ⟨fun m τ' H' => ∃ g' σ' h', g.le h.length g' ∧ h.length ≤ h'.length ∧ RelH (kx c X) g' h' H' ∧ RelS (kx c X) g' h'.length σ' τ' ∧ PostS (kx c X) g' h'.length D W (whileL mt mb m σ' h'), ⟨n, g, σ, h, Gh.le.refl _ _, Nat.le_refl _, rh, rs, q⟩, fun m τ' H' hh => ?_⟩
  obtain ⟨g', σ', h', l, hn, rh', rs', q'⟩ := hh
  cases m with
  | zero => exact q'.elim
  | succ m =>
    unfold whileL at q'
    refine st g' σ' h' τ' H' _ rs' rh' ((PostS.then rs' q').imp (fun k H1 ⟨g1, k', h1, m1, q1⟩ => ?_) fun _ _ _ z => z)
    obtain rfl : k = k' := m1.rep
    cases k with
    | true =>
      rw [if_pos rfl]
      refine ⟨fun τ3 H3 => ∃ g3 σ3 h3, g.le h.length g3 ∧ h.length ≤ h3.length ∧ RelH (kx c X) g3 h3 H3 ∧ RelS (kx c X) g3 h3.length σ3 τ3 ∧ PostS (kx c X) g3 h3.length D W (whileL mt mb m σ3 h3), fun τ3 H3 z => ⟨m, Nat.lt_succ_self _, z⟩, ?_⟩
      refine sb g1 σ' h1 τ' H1 _ (rs'.mono m1.le m1.len) m1.rel (PostS.loop q1 fun g3 σ3 h3 τ3 H4 l3 hn3 rh3 rs3 q4 => ?_)
      exact ⟨g3, σ3, h3, (l.trans m1.le hn).trans l3 (Nat.le_trans hn m1.len), Nat.le_trans (Nat.le_trans hn m1.len) hn3, rh3, rs3, q4⟩
    | false =>
      rw [if_neg Bool.false_ne_true]
      exact q1 g1 τ' H1 (Gh.le.refl _ _) (Nat.le_refl _) m1.rel (rs'.mono m1.le m1.len)
end
end Pm
namespace Pm
open PySem PySem.Spec L2 PyProof.Rows

/-! ### values that lean on the first n cells alone -/
mutual
def closedV (n : Nat) : PV → Prop
  | .tup xs => closedVs n xs
  | .lst xs => closedVs n xs
  | .scr xs => closedVs n xs
  | .ins _ fs => closedF n fs
  | .ref i => i < n
  | _ => True
def closedVs (n : Nat) : List PV → Prop
  | [] => True
  | x :: xs => closedV n x ∧ closedVs n xs
def closedF (n : Nat) : List (Str × PV) → Prop
  | [] => True
  | (_, x) :: xs => closedV n x ∧ closedF n xs
end
def closedO (n : Nat) : PO → Prop
  | .lst xs => closedVs n xs
  | .dic _ kvs => ∀ p ∈ kvs, closedV n p.2
  | .ins _ fs => closedF n fs
  | .dead => True
section
variable {n : Nat}
@[simp] theorem closedV_non : closedV n .non := by simp [closedV]
@[simp] theorem closedV_bl (b : Bool) : closedV n (.bl b) := by simp [closedV]
@[simp] theorem closedV_int (i : Int) : closedV n (.int i) := by simp [closedV]
@[simp] theorem closedV_str (i : Str) : closedV n (.str i) := by simp [closedV]
@[simp] theorem closedV_ty (i : String) : closedV n (.ty i) := by simp [closedV]
@[simp] theorem closedV_cls (i : Nat) : closedV n (.cls i) := by simp [closedV]
@[simp] theorem closedV_exn : closedV n .exn := by simp [closedV]
@[simp] theorem closedV_tup (xs : List PV) : closedV n (.tup xs) ↔ closedVs n xs := by simp [closedV]
@[simp] theorem closedV_lst (xs : List PV) : closedV n (.lst xs) ↔ closedVs n xs := by simp [closedV]
@[simp] theorem closedV_scr (xs : List PV) : closedV n (.scr xs) ↔ closedVs n xs := by simp [closedV]
@[simp] theorem closedV_ins (C : Nat) (fs : List (Str × PV)) : closedV n (.ins C fs) ↔ closedF n fs := by simp [closedV]
@[simp] theorem closedV_ref (i : Nat) : closedV n (.ref i) ↔ i < n := by simp [closedV]
@[simp] theorem closedVs_nil : closedVs n [] := by simp [closedVs]
@[simp] theorem closedVs_cons (x : PV) (xs : List PV) : closedVs n (x :: xs) ↔ closedV n x ∧ closedVs n xs := by simp [closedVs]
@[simp] theorem closedF_nil : closedF n [] := by simp [closedF]
@[simp] theorem closedF_cons (p : Str × PV) (xs : List (Str × PV)) : closedF n (p :: xs) ↔ closedV n p.2 ∧ closedF n xs := by cases p; simp [closedF]
theorem closedVs_iff : ∀ {xs : List PV}, closedVs n xs ↔ ∀ x ∈ xs, closedV n x
  | [] => by simp
  | x :: xs => by simp [closedVs_iff (xs := xs)]
theorem closedVs_map {α : Type} {f : α → PV} {xs : List α} (h : ∀ x ∈ xs, closedV n (f x)) : closedVs n (xs.map f) := by
  rw [closedVs_iff]; intro y hy
  obtain ⟨x, hx, rfl⟩ := List.mem_map.mp hy
  exact h x hx
@[simp] theorem closedVs_ints (xs : List Int) : closedVs n (xs.map PV.int) := closedVs_map fun _ _ => closedV_int _
@[simp] theorem closedVs_bls (xs : List Bool) : closedVs n (xs.map PV.bl) := closedVs_map fun _ _ => closedV_bl _
@[simp] theorem closedVs_strs (xs : List Str) : closedVs n (xs.map PV.str) := closedVs_map fun _ _ => closedV_str _
@[simp] theorem closedVs_append (xs ys : List PV) : closedVs n (xs ++ ys) ↔ closedVs n xs ∧ closedVs n ys := by
  simp only [closedVs_iff, List.mem_append]
  exact ⟨fun h => ⟨fun x hx => h x (.inl hx), fun x hx => h x (.inr hx)⟩, fun h x hx => hx.elim (h.1 x) (h.2 x)⟩
end
section
variable {K : Kc} {g : Gh} {n m : Nat}
mutual
theorem closed_of_rep : ∀ {x : PV} {u : V}, Rep K g n x u → closedV n x
  | .non, _, _ => closedV_non
  | .bl _, _, _ => closedV_bl _
  | .int _, _, _ => closedV_int _
  | .str _, _, _ => closedV_str _
  | .ty _, _, _ => closedV_ty _
  | .cls _, _, _ => closedV_cls _
  | .exn, _, _ => closedV_exn
  | .tup xs, _, h => by
    simp only [Rep] at h
    obtain ⟨a, us, e, s, r⟩ := h
    simpa only [closedV] using closeds_of_rep r
  | .lst xs, _, h => by
    simp only [Rep] at h
    obtain ⟨a, us, e, s, r⟩ := h
    simpa only [closedV] using closeds_of_rep r
  | .scr xs, _, h => by
    simp only [Rep] at h
    obtain ⟨a, us, e, s, r⟩ := h
    simpa only [closedV] using closeds_of_rep r
  | .ins C fs, _, h => by
    simp only [Rep] at h
    obtain ⟨a, dx, gs, e, s, r⟩ := h
    simpa only [closedV] using closedF_of_rep r
  | .ref i, _, h => by
    simp only [Rep] at h
    simpa only [closedV] using h.1
theorem closeds_of_rep : ∀ {xs : List PV} {us : List V}, Reps K g n xs us → closedVs n xs
  | [], _, _ => by simp only [closedVs]
  | x :: xs, _, h => by
    simp only [Reps] at h
    obtain ⟨u, r, e, a, b⟩ := h
    simp only [closedVs]
    exact ⟨closed_of_rep a, closeds_of_rep b⟩
theorem closedF_of_rep : ∀ {fs : List (Str × PV)} {us : List (Str × V)}, RepF K g n fs us → closedF n fs
  | [], _, _ => by simp only [closedF]
  | (f, x) :: xs, _, h => by
    simp only [RepF] at h
    obtain ⟨u, r, e, a, b⟩ := h
    simp only [closedF]
    exact ⟨closed_of_rep a, closedF_of_rep b⟩
end
mutual
theorem rep_of_closed : ∀ {x : PV} {u : V}, Rep K g m x u → closedV n x → Rep K g n x u
  | .non, _, h, _ => by simpa only [Rep] using h
  | .bl _, _, h, _ => by simpa only [Rep] using h
  | .int _, _, h, _ => by simpa only [Rep] using h
  | .str _, _, h, _ => by simpa only [Rep] using h
  | .ty _, _, h, _ => by simpa only [Rep] using h
  | .cls _, _, h, _ => by simpa only [Rep] using h
  | .exn, _, h, _ => by simpa only [Rep] using h
  | .tup xs, _, h, q => by
    simp only [Rep] at h ⊢
    simp only [closedV] at q
    obtain ⟨a, us, e, s, r⟩ := h
    exact ⟨a, us, e, s, reps_of_closed r q⟩
  | .lst xs, _, h, q => by
    simp only [Rep] at h ⊢
    simp only [closedV] at q
    obtain ⟨a, us, e, s, r⟩ := h
    exact ⟨a, us, e, s, reps_of_closed r q⟩
  | .scr xs, _, h, q => by
    simp only [Rep] at h ⊢
    simp only [closedV] at q
    obtain ⟨a, us, e, s, r⟩ := h
    exact ⟨a, us, e, s, reps_of_closed r q⟩
  | .ins C fs, _, h, q => by
    simp only [Rep] at h ⊢
    simp only [closedV] at q
    obtain ⟨a, dx, gs, e, s, r⟩ := h
    exact ⟨a, dx, gs, e, s, repF_of_closed r q⟩
  | .ref i, _, h, q => by
    simp only [Rep] at h ⊢
    simp only [closedV] at q
    exact ⟨q, h.2⟩
theorem reps_of_closed : ∀ {xs : List PV} {us : List V}, Reps K g m xs us → closedVs n xs → Reps K g n xs us
  | [], _, h, _ => by simpa only [Reps] using h
  | x :: xs, _, h, q => by
    simp only [Reps] at h ⊢
    simp only [closedVs] at q
    obtain ⟨u, r, e, a, b⟩ := h
    exact ⟨u, r, e, rep_of_closed a q.1, reps_of_closed b q.2⟩
theorem repF_of_closed : ∀ {fs : List (Str × PV)} {us : List (Str × V)}, RepF K g m fs us → closedF n fs → RepF K g n fs us
  | [], _, h, _ => by simpa only [RepF] using h
  | (f, x) :: xs, _, h, q => by
    simp only [RepF] at h ⊢
    simp only [closedF] at q
    obtain ⟨u, r, e, a, b⟩ := h
    exact ⟨u, r, e, rep_of_closed a q.1, repF_of_closed b q.2⟩
end
theorem repD_of_closed {κ : Type} {key : PV → Option κ} : ∀ {kvs : List (PV × PV)} {us : List (κ × V)}, RepD K g m key kvs us → (∀ p ∈ kvs, closedV n p.2) → RepD K g n key kvs us
  | [], _, h, _ => by simpa only [RepD] using h
  | (k, x) :: xs, _, h, q => by
    simp only [RepD] at h ⊢
    obtain ⟨k', u, r, e, ek, a, b⟩ := h
    exact ⟨k', u, r, e, ek, rep_of_closed a (q _ List.mem_cons_self), repD_of_closed b fun p hp => q p (List.mem_cons_of_mem _ hp)⟩
theorem closedD_of_rep {κ : Type} {key : PV → Option κ} : ∀ {kvs : List (PV × PV)} {us : List (κ × V)}, RepD K g n key kvs us → ∀ p ∈ kvs, closedV n p.2
  | [], _, _, p, hp => by cases hp
  | (k, x) :: xs, _, h, p, hp => by
    simp only [RepD] at h
    obtain ⟨k', u, r, e, ek, a, b⟩ := h
    rcases List.mem_cons.mp hp with rfl | hp
    · exact closed_of_rep a
    · exact closedD_of_rep b p hp
theorem repO_of_closed {o : PO} {u : HO} (h : RepO K g m o u) (q : closedO n o) : RepO K g n o u := by
  cases o with
  | lst xs => obtain ⟨us, e, r⟩ := h; exact ⟨us, e, reps_of_closed r q⟩
  | dic t kvs =>
    cases t with
    | false => obtain ⟨us, e, r⟩ := h; exact ⟨us, e, repD_of_closed r q⟩
    | true => obtain ⟨us, e, r⟩ := h; exact ⟨us, e, repD_of_closed r q⟩
  | ins C fs => obtain ⟨dx, gs, e, r⟩ := h; exact ⟨dx, gs, e, repF_of_closed r q⟩
  | dead => trivial
theorem closedO_of_rep {o : PO} {u : HO} (h : RepO K g n o u) : closedO n o := by
  cases o with
  | lst xs => obtain ⟨us, e, r⟩ := h; exact closeds_of_rep r
  | dic t kvs =>
    cases t with
    | false => obtain ⟨us, e, r⟩ := h; exact closedD_of_rep r
    | true => obtain ⟨us, e, r⟩ := h; exact closedD_of_rep r
  | ins C fs => obtain ⟨dx, gs, e, r⟩ := h; exact closedF_of_rep r
  | dead => trivial
end

/-! ### what was made within is let go -/
def gcOk (h h' : VH) : Prop := ∀ i o, i < h.length → h'[i]? = some o → h[i]? = some o ∨ closedO h.length o
open Classical in
noncomputable def gc (h : VH) (v : PV) (h' : VH) : Res PV := if gcOk h h' ∧ closedV h.length v then .ok v (h'.take h.length) else .ok v h'
open Classical in
noncomputable def gcX (h : VH) (e : PX) (h' : VH) : Res PV := if gcOk h h' ∧ closedF h.length e.fs then .exc e (h'.take h.length) else .exc e h'
@[simp] theorem gcOk_same (h : VH) : gcOk h h := fun _ _ _ e => .inl e
@[simp] theorem gcOk_app (h j : VH) : gcOk h (h ++ j) := fun i o hi e => .inl (by rwa [List.getElem?_append_left hi] at e)
theorem gcOk_set {h h' : VH} {i : Nat} {o : PO} (q : gcOk h h') (c : closedO h.length o) : gcOk h (h'.set i o) := fun j p hj e => by
  by_cases e2 : i = j
  · subst e2
    by_cases hl : i < h'.length
    · rw [List.getElem?_set_self hl] at e
      cases e
      exact .inr c
    · rw [List.getElem?_eq_none (by simpa using hl)] at e; cases e
  · rw [List.getElem?_set_ne e2] at e
    exact q j p hj e
theorem gc_eq {h : VH} {v : PV} {h' : VH} (a : gcOk h h') (b : closedV h.length v) : gc h v h' = .ok v (h'.take h.length) := if_pos ⟨a, b⟩
theorem gcX_eq {h : VH} {e : PX} {h' : VH} (a : gcOk h h') (b : closedF h.length e.fs) : gcX h e h' = .exc e (h'.take h.length) := if_pos ⟨a, b⟩
theorem gc_same {h : VH} {v : PV} (b : closedV h.length v) : gc h v h = .ok v h := by rw [gc_eq (gcOk_same h) b, List.take_length]
theorem gc_app {h j : VH} {v : PV} (b : closedV h.length v) : gc h v (h ++ j) = .ok v h := by rw [gc_eq (gcOk_app h j) b, List.take_left']; rfl
theorem gcX_same {h : VH} {e : PX} (b : closedF h.length e.fs) : gcX h e h = .exc e h := by rw [gcX_eq (gcOk_same h) b, List.take_length]
theorem gcX_app {h j : VH} {e : PX} (b : closedF h.length e.fs) : gcX h e (h ++ j) = .exc e h := by rw [gcX_eq (gcOk_app h j) b, List.take_left']; rfl
section
variable {K : Kc} {g g' : Gh} {h h' : VH} {H H' : Hp} {Q : VK} {E : XK} {v : PV}
theorem RelH.take (r0 : RelH K g h H) (l : g.le h.length g') (r : RelH K g' h' H') (hn : h.length ≤ h'.length) (q : gcOk h h') : RelH K g' (h'.take h.length) H' := by
  have at' : ∀ {i o}, (h'.take h.length)[i]? = some o → i < h.length ∧ h'[i]? = some o := fun {i o} e => by
    rw [List.getElem?_take] at e
    split at e
    · exact ⟨‹_›, e⟩
    · cases e
  have hl : (h'.take h.length).length = h.length := by rw [List.length_take]; omega
  refine ⟨r.same, fun i o e no => ?_, fun i o e no => r.sep i o (at' e).2 no, fun i j o p e no e' no' => r.inj i j o p (at' e).2 no (at' e').2 no', fun a o e => ⟨(r.fr a o e).1, (r.fr a o e).2.1, fun i p e' no => (r.fr a o e).2.2 i p (at' e').2 no⟩, fun a dd e z => ?_⟩
  rotate_left
  · obtain ⟨gs, e1, e2⟩ := r0.ex a dd e z
    exact ⟨gs, l.same _ _ e1, by rw [hl]; exact e2.mono l (Nat.le_refl _)⟩
  obtain ⟨hi, e⟩ := at' e
  obtain ⟨u, hu, ru⟩ := r.cell i o e no
  refine ⟨u, hu, ?_⟩
  rw [hl]
  refine repO_of_closed ru ?_
  rcases q i o hi e with e0 | c
  · obtain ⟨u0, _, ru0⟩ := r0.cell i o e0 no
    exact closedO_of_rep ru0
  · exact c
theorem Post.gc {P : Prop} (r0 : RelH K g h H) (p : Post K (Rep K) g h.length Q E (gc h v h')) :
    ∀ g' u H', g.le h.length g' → h.length ≤ h'.length → RelH K g' h' H' → Rep K g' h'.length v u → Q u H' := by
  intro g' u H' l hn rh rv
  unfold Pm.gc at p
  split at p
  · rename_i q
    have hl : (h'.take h.length).length = h.length := by rw [List.length_take]; omega
    exact p g' u H' l (by rw [hl]; exact Nat.le_refl _) (RelH.take r0 l rh hn q.1) (by rw [hl]; exact rep_of_closed rv q.2)
  · exact p g' u H' l hn rh rv
theorem Post.gcX {e : PX} (r0 : RelH K g h H) (p : Post K (Rep K) g h.length Q E (gcX h e h')) :
    ∀ g' cls d H', g.le h.length g' → h.length ≤ h'.length → RelH K g' h' H' → RepX K g' h'.length e cls d H' → E cls d H' := by
  intro g' cls d H' l hn rh rx
  unfold Pm.gcX at p
  split at p
  · rename_i q
    have hl : (h'.take h.length).length = h.length := by rw [List.length_take]; omega
    refine p g' cls d H' l (by rw [hl]; exact Nat.le_refl _) (RelH.take r0 l rh hn q.1) ?_
    obtain ⟨e1, dd, gs, e2, e3, r⟩ := rx
    exact ⟨e1, dd, gs, e2, e3, by rw [hl]; exact repF_of_closed r q.2⟩
  · exact p g' cls d H' l hn rh rx
end

/-! ### defs -/
noncomputable def fin (h : VH) : SR → Res PV
  | .nx _ h' => gc h .non h'
  | .rt v h' => gc h v h'
  | .xc e _ h' => gcX h e h'
  | _ => .bad
@[simp] theorem fin_nx (h h' : VH) (σ : LS) : fin h (.nx σ h') = gc h .non h' := (rfl)
@[simp] theorem fin_rt (h h' : VH) (v : PV) : fin h (.rt v h') = gc h v h' := (rfl)
@[simp] theorem fin_xc (h h' : VH) (e : PX) (σ : LS) : fin h (.xc e σ h') = gcX h e h' := (rfl)
@[simp] theorem fin_bad (h : VH) : fin h .bad = .bad := (rfl)
abbrev startL (n : Nat) (args : List PV) : LS := args.map some ++ List.replicate (n - args.length) none
noncomputable def fnRun (n : Nat) (m : SM) (args : List PV) (h : VH) : Res PV := fin h (m (startL n args) h)
theorem fnRun_eq (n : Nat) (m : SM) (args : List PV) (h : VH) : fnRun n m args h = fin h (m (startL n args) h) := rfl
def spOf (K : Kc) (n : Nat) (m : List PV → VH → Res PV) : Sp := fun vs H Q E => ∃ g h pvs, pvs.length = n ∧ Reps K g h.length pvs vs ∧ RelH K g h H ∧ Post K (Rep K) g h.length Q E (m pvs h)
abbrev WF (E : XK) : WX := fun cls d _ H => E cls d H
/-- a def's promise, at a place where no object is being shown (repr's guards) -/
structure FnG (P : Program) (w : World) (K : PySem.W.Frag) (mg : Str → Option Value) (base : Heap) (k : Nat) (f : Addr) (fd : FuncData) (ps : List Str) (sp : Sp) : Prop where
  len : ∀ vs H Q E, sp vs H Q E → vs.length = ps.length
  run : ∀ (A : Around) (outer : List Env) (s : Shared) (H : Hp) (args : Args) (us : List Value) (vs : List V) (Q : VK) (E : XK), Room k A → A.guards = some [] → Env0 P w K mg base A outer s H → BindsTo s fd args (ps.zip us) →
    Vals vs us → sp vs H Q E → codeAny (model P w) A (.call (.ref f) args) (CR (L2.CX P w) outer P w H s Q E) s
theorem FnG.mono {P : Program} {w : World} {K : PySem.W.Frag} {mg : Str → Option Value} {base : Heap} {f : Addr} {fd : FuncData} {ps : List Str} {sp : Sp} {j k : Nat} (F : FnG P w K mg base j f fd ps sp) (h : j ≤ k) : FnG P w K mg base k f fd ps sp :=
  ⟨F.len, fun A outer s H args us vs Q E room => F.run A outer s H args us vs Q E (room.mono h)⟩
theorem FnG.of {P : Program} {w : World} {K : PySem.W.Frag} {mg : Str → Option Value} {base : Heap} {x qual : Str} {st : Stmt} {f : Addr} {fd : FuncData} {N ps : List Str} {k : Nat} {sp : Sp} (F : Fun K x qual st f fd) (S : FnScope N ps (defScope st))
    (ln : ∀ vs H Q E, sp vs H Q E → vs.length = ps.length)
    (bd : ∀ (cdv : Value) (A : Around) (outer : List Env) (s : Shared) (H : Hp) (vs : List V) (Q : VK) (E : XK), Room k (A.deeper (envOfC qual (defScope st) s.heap.objs.size f cdv)) → (A.deeper (envOfC qual (defScope st) s.heap.objs.size f cdv)).guards = some [] → sp vs H Q E →
      ∃ t, PSs (cxOf (L2.CX P w) P w K mg base N qual (defScope st) f cdv A outer s H E) (defBody st) t ∧ t { nx := fun _ H' => Q .non H', rt := Q } (L2.start N vs) H) : FnG P w K mg base (k + 1) f fd ps sp := by
  obtain ⟨oc, od, kV, doc, pm, an, cdv, ct, osl, rfl, lk, code⟩ := F.ex
  refine ⟨ln, fun A outer s H args us vs Q E room gd env0 bnd rl hsp => ?_⟩
  have len0 := ln _ _ _ _ hsp
  have inK : K.In s.heap := env0.mod.kin.keeps fun b o e => (env0.bs b o e).1
  have noLim : s.heap.NoLimit := env0.mod.nolimit.keeps fun b o e => (env0.bs b o e).1
  have kinds : ∀ y ∈ ps.zip us, (defScope st).names.lookup y.1 = some .local ∨ ((defScope st).names.lookup y.1 = some .cell ∧ ((cellsFrom (s.heap.objs.size + 1) (defScope st).names []).lookup y.1).isSome = true) := by
    rintro ⟨n, v⟩ hy
    rcases S.par n (List.of_mem_zip hy).1 with q | q
    · exact .inl q
    · exact .inr ⟨q, PySem.W.cellsFrom_some _ _ _ (.inl q)⟩
  refine codeAny_call_function room.depth (inK _ _ lk) rfl S.co S.gen rfl (PySem.W.codeRec_of inK code) (bnd _ _ _ _ ?_)
  refine wpAny_newFunctionEnv_cells S.kind kinds fun env eqn s1 made => ?_
  subst eqn
  refine ⟨noLim.keeps made.toInCall.keep, codeAny_func ?_⟩
  obtain ⟨t, ht, goal⟩ := bd cdv A outer s H vs Q E (room.deeper _) gd hsp
  have I0 : Inv (cxOf (L2.CX P w) P w K mg base N qual (defScope st) f cdv A outer s H E) [] (L2.start N vs) H s1 := inv_start S room.hd env0 len0 rl made
  refine wpAny_mono (ht.run [] s1 (L2.start N vs) H _ I0 goal) (fun fl s' out => ?_) fun e s' out => out
  have back : ∀ {τ' : L2.St} {H' : Hp} {v : V} {u : Value}, Inv (cxOf (L2.CX P w) P w K mg base N qual (defScope st) f cdv A outer s H E) [] τ' H' s' → RelV v u → Q v H' → CE outer P w H s Q u s' := by
    intro τ' H' v u J rv q
    exact ⟨v, H', J.os, J.bare, J.base, J.hok, rv, q⟩
  cases fl with
  | ret u =>
    obtain ⟨v, τ', H', J, rv, q⟩ := out
    exact back J rv q
  | next =>
    obtain ⟨τ', H', J, q⟩ := out
    exact back (v := V.non) (u := Value.none) J rfl q
  | brk =>
    obtain ⟨_, _, _, q⟩ := out
    exact q.elim
  | cont =>
    obtain ⟨_, _, _, q⟩ := out
    exact q.elim
structure FnS (c : Ck) (P : Program) (w : World) (K : PySem.W.Frag) (mg : Str → Option Value) (base : Heap) (k : Nat) (f : Addr) (fd : FuncData) (ps : List Str) (m : List PV → VH → Res PV) : Prop where
  ok : FnG P w K mg base k f fd ps (spOf ⟨K, c⟩ ps.length m)
theorem Reps.start {K : Kc} {g : Gh} {n : Nat} {pvs : List PV} {vs : List V} (r : Reps K g n pvs vs) (N : List Str) : RelS K g n (startL N.length pvs) (L2.start N vs) := by
  have hl := r.length
  refine ⟨by unfold L2.start; simp [hl], fun i v e => ?_⟩
  unfold startL at e
  by_cases hi : i < pvs.length
  · rw [List.getElem?_append_left (by simpa using hi), List.getElem?_map] at e
    obtain ⟨x, ex, e'⟩ : ∃ x, pvs[i]? = some x ∧ x = v := by
      cases q : pvs[i]? with
      | none => rw [q] at e; simp at e
      | some x => rw [q] at e; simp at e; exact ⟨x, rfl, e⟩
    subst e'
    obtain ⟨u, eu, ru⟩ := r.get ex
    refine ⟨u, ?_, ru⟩
    unfold L2.start
    rw [List.getElem?_append_left (by simpa [hl] using hi), List.getElem?_map, eu]
    rfl
  · rw [List.getElem?_append_right (by simpa using hi)] at e
    simp only [List.getElem?_replicate] at e
    split at e <;> cases e
section
variable {c : Ck} {P : Program} {w : World} {K : PySem.W.Frag} {mg : Str → Option Value} {base : Heap}
theorem FnS.of {x qual : Str} {st : Stmt} {f : Addr} {fd : FuncData} {N ps : List Str} {k : Nat} {m : SM} (F : Fun K x qual st f fd) (S : FnScope N ps (defScope st))
    (body : ∀ (cdv : Value) (A : Around) (outer : List Env) (s : Shared) (H : Hp) (E : XK), Room k (A.deeper (envOfC qual (defScope st) s.heap.objs.size f cdv)) → (A.deeper (envOfC qual (defScope st) s.heap.objs.size f cdv)).guards = some [] →
      SS c (cxOf (L2.CX P w) P w K mg base N qual (defScope st) f cdv A outer s H E) (WF E) (defBody st) m) : FnS c P w K mg base (k + 1) f fd ps (fnRun N.length m) := by
  refine ⟨FnG.of F S (fun vs H Q E h => ?_) (fun cdv A outer s H vs Q E hr hgd h => ?_)⟩
  · obtain ⟨g, hp, pvs, e, r, _⟩ := h
    rw [← e, r.length]
  · obtain ⟨g, hp, pvs, e, r, rh, p⟩ := h
    obtain ⟨t, ht, s1⟩ := body cdv A outer s H E hr hgd
    refine ⟨t, ht, s1 g (startL N.length pvs) hp (L2.start N vs) H _ (r.start N) rh ?_⟩
    unfold fnRun at p
    generalize m (startL N.length pvs) hp = res at p ⊢
    cases res with
    | nx σ h' => exact fun g' τ H' l hn rh' rs => Post.gc (P := True) rh p g' _ H' l hn rh' (by simp only [Rep])
    | rt v h' => exact fun g' u H' l hn rh' rv => Post.gc (P := True) rh p g' u H' l hn rh' rv
    | xc e σ h' => exact fun g' cls d τ H' l hn rh' rs rx => Post.gcX rh p g' cls d H' l hn rh' rx
    | bk σ h' => exact p.elim
    | ct σ h' => exact p.elim
    | bad => exact p
theorem FnS.mono {f : Addr} {fd : FuncData} {ps : List Str} {j k : Nat} {m : List PV → VH → Res PV} (F : FnS c P w K mg base j f fd ps m) (h : j ≤ k) : FnS c P w K mg base k f fd ps m := ⟨F.ok.mono h⟩
end

/-! ### calls of defs -/
section
variable {c : Ck} {X : Cx} {W : WX} {k : Nat} {f C : Addr} {fd : FuncData} {ps : List Str} {m : List PV → VH → Res PV} {x mn : Str} {p pos apos : Pos} {e o : Expr} {es : List Expr} {ms : AM} {mo : EM}
theorem run_fnG {sp : Sp} {E : XK} {pins : List (Addr × Obj)} {τ : L2.St} {H : Hp} {s : Shared} {Q : VK} {us : List Value} {vs : List V} (F : FnG X.prog X.w X.K X.mg X.base k f fd ps sp) (room : Room k X.A) (gd : X.A.guards = some []) (bi : Binds X.K fd ps [])
    (px : PassesAt (L2.CX X.prog X.w) X τ E) (I : Inv X pins τ H s) (r : Vals vs us) (h : sp vs H Q E) : wpAny (model X.prog X.w) X.A (call (.ref f) us) (EP X pins τ Q) X.xe s := by
  have ln : us.length = ps.length := by rw [← r.length]; exact F.len _ _ _ _ h
  have b := bi s us I.kIn (by rw [List.append_nil]; exact ln)
  rw [List.append_nil] at b
  refine wpAny_call (codeAny_mono (F.run X.A X.stack s H ⟨us, []⟩ us vs Q E room gd I.env0 b r h) fun res s' hq => ?_)
  cases res with
  | error e => exact px pins H s e s' I hq
  | ok fl =>
    cases fl with
    | ret u => exact I.after hq
    | next => exact hq.elim
    | brk => exact hq.elim
    | cont => exact hq.elim
theorem pe_callG {sp : Sp} {E : L2.St → XK} {t : TA} (F : FnG X.prog X.w X.K X.mg X.base k f fd ps sp) (room : Room k X.A) (gd : X.A.guards = some []) (hg : Gl X x) (hm : X.mg x = some (.ref f)) (hk : PySem.W.keepIn X.K (.ref f) = true) (bi : Binds X.K fd ps [])
    (px : ∀ τ, PassesAt (L2.CX X.prog X.w) X τ (E τ)) (pa : PA X (e :: es) t) (hdb : (x == ("__debug__" : Str)) = false) (st : starEach (e :: es) X.env = (false, eval e X.env) :: starEach es X.env) (pl : (backTo pos (starEach es X.env)).any (·.1) = false) :
    PE X (.Call (.Name x p) (e :: es) [] pos) (tCallS sp E t) := by
  refine ⟨fun pins s τ H Q I h => wpAny_Call_Name_kw (ld_glob I hg hm ?_ hdb)⟩
  exact PySem.W.callWith_K (h₀ := X.base) I.ok.mod.kin hk (thn (pa.run pos pins s τ H _ I h) fun us s1 ⟨vs, H1, I1, r, q⟩ => ⟨I1.kIn, run_fnG F room gd bi (px τ) I1 r q⟩) st pl
theorem args_sp {K : Kc} {t : TA} {τ : L2.St} {g : Gh} {h : VH} {H : Hp} {Q : VK} {E : XK} {n : Nat} {r : Res (List PV)} (s : ∀ Q, Post K (Reps K) g h.length Q E r → t τ H Q)
    (hl : ∀ xs h', r = .ok xs h' → xs.length = n) (q : Post K (Rep K) g h.length Q E (r.bind m)) : t τ H fun vs H1 => spOf K n m vs H1 Q E := by
  refine s _ ?_
  cases r with
  | ok xs h' =>
    intro g' us H' l hn rh' ru
    exact ⟨g', h', xs, hl _ _ rfl, ru, rh', Post.up q l hn⟩
  | exc e' h' => exact q
  | bad => exact q
theorem SE.call (F : FnS c X.prog X.w X.K X.mg X.base k f fd ps m) (hr : Room k X.A) (hgd : X.A.guards = some []) (hg : Gl X x) (hm : X.mg x = some (.ref f)) (hk : PySem.W.keepIn X.K (.ref f) = true) (hb : Binds X.K fd ps []) (tk : Takes X W) (ha : SA c X W (e :: es) ms)
    (hn : (e :: es).length = ps.length := by rfl) (hdb : (x == ("__debug__" : Str)) = false := by decide) (he : starEach (e :: es) X.env = (false, eval e X.env) :: starEach es X.env := by rfl) (hpl : (backTo pos (starEach es X.env)).any (·.1) = false := by rfl) :
    SE c X W (.Call (.Name x p) (e :: es) [] pos) (eCall m ms) := by
  obtain ⟨la, t, pa, s⟩ := ha
  exact ⟨_, pe_callG F.ok hr hgd hg hm hk hb (fun σ => passAt tk σ) pa hdb he hpl, fun g σ h τ H Q rs rh q => args_sp (fun Q z => s g σ h τ H Q rs rh z) (fun xs h' z => (la σ h xs h' z).trans hn) q⟩
theorem SE.call0 (F : FnS c X.prog X.w X.K X.mg X.base k f fd [] m) (hr : Room k X.A) (hgd : X.A.guards = some []) (hg : Gl X x) (hm : X.mg x = some (.ref f)) (hk : PySem.W.keepIn X.K (.ref f) = true) (hb : Binds X.K fd [] []) (tk : Takes X W)
    (hdb : (x == ("__debug__" : Str)) = false := by decide) : SE c X W (.Call (.Name x p) [] [] pos) (fun _ h => m [] h) := by
  refine ⟨fun τ H Q => spOf (kx c X) 0 m [] H Q (WE W τ), ⟨fun pins s τ H Q I h => ?_⟩, fun g σ h τ H Q rs rh q => ⟨g, h, [], rfl, Reps.nil, rh, q⟩⟩
  exact wpAny_Call_Name_kw (ld_glob I hg hm (PySem.W.callWith_K0 I.kIn hk (run_fnG (us := []) F.ok hr hgd hb (passAt tk τ) I .nil h)) hdb)

/-! ### instances -/
/-- the class and the attributes of an instance -/
def insAt : PV → VH → Option (Nat × List (Str × PV))
  | .ins C fs, _ => some (C, fs)
  | .ref i, h => match h[i]? with
    | some (.ins C fs) => some (C, fs)
    | _ => none
  | _, _ => none
@[simp] theorem insAt_ins (C : Nat) (fs : List (Str × PV)) (h : VH) : insAt (.ins C fs) h = some (C, fs) := (rfl)
theorem insAt_ref {i C : Nat} {fs : List (Str × PV)} {h : VH} (e : h[i]? = some (.ins C fs)) : insAt (.ref i) h = some (C, fs) := by simp [insAt, e]
theorem insAt_run {K : Kc} {g : Gh} {h : VH} {H : Hp} {x : PV} {u : V} {C : Nat} {fs : List (Str × PV)} (rx : Rep K g h.length x u) (rh : RelH K g h H) (e : insAt x h = some (C, fs)) :
    ∃ a dx gs, u = .ref a ∧ H a = some (.ins (K.cls C) dx gs) ∧ RepF K g h.length fs gs := by
  cases x with
  | ins D fs' =>
    cases e
    simp only [Rep] at rx
    obtain ⟨a, dx, gs, rfl, s, r⟩ := rx
    exact ⟨a, dx, gs, rfl, rh.same _ _ s, r⟩
  | ref i =>
    simp only [Rep] at rx
    have e : (match h[i]? with
      | some (PO.ins C fs) => some (C, fs)
      | _ => none) = some (C, fs) := e
    split at e
    · rename_i D fs' e1
      cases e
      obtain ⟨u', hu, ru⟩ := rh.cell i _ e1 (by intro z; cases z)
      obtain ⟨dx, gs, rfl, r⟩ := ru
      exact ⟨_, dx, gs, rx.2, hu, r⟩
    · cases e
  | _ => cases e
/-- e.f of an instance of class C -/
def fldP (C : Nat) (f : Str) (x : PV) (h : VH) : Res PV := match insAt x h with
  | some (D, fs) => if D = C then (match fs.lookup f with
    | some v => .ok v h
    | none => .bad) else .bad
  | none => .bad
def eFld (C : Nat) (f : Str) (m : EM) : EM := fun σ h => (m σ h).bind (fldP C f)
theorem SE.fld {Cn : Nat} {fl : Str} (he : SE c X W e mo) (cl : Cls X.K (c Cn)) (na : NoAttr X.K (c Cn) fl) (hb : attributeBase e fl X.env (eval e X.env) = eval e X.env := by rfl) : SE c X W (.Attribute e fl pos) (eFld Cn fl mo) := by
  obtain ⟨t, p, s⟩ := he
  refine ⟨_, pe_fld p hb, fun g σ h τ H Q rs rh q => ?_⟩
  refine s g σ h τ H _ rs rh ((Post.bind q).imp (fun u H1 ⟨g1, x, h1, m1, q1⟩ => ?_) fun _ _ _ z => z)
  unfold fldP at q1
  split at q1
  · rename_i D fs e1
    split at q1
    · rename_i e2
      subst e2
      split at q1
      · rename_i v e3
        obtain ⟨a, dx, gs, rfl, hu, r⟩ := insAt_run m1.rep m1.rel e1
        obtain ⟨w', e4, r4⟩ := (RepF.lookup (f := fl) r).1 v e3
        exact ⟨a, _, dx, gs, w', rfl, hu, cl, na, e4, const_run m1.rel r4 q1⟩
      · exact q1.elim
    · exact q1.elim
  · exact q1.elim
/-- a method of class C called: the receiver ahead of the arguments -/
def methP (C : Nat) (mn : Str) (ms : AM) (m : List PV → VH → Res PV) (σ : LS) (x : PV) (h : VH) : Res PV := match insAt x h with
  | some (D, fs) => if D = C ∧ fs.lookup mn = none then (ms σ h).bind fun xs h2 => m (x :: xs) h2 else .bad
  | none => .bad
def eMeth (C : Nat) (mn : Str) (m : List PV → VH → Res PV) (mo : EM) (ms : AM) : EM := fun σ h => (mo σ h).bind (methP C mn ms m σ)
def tMethS (C : Addr) (mn : Str) (sp : Sp) (E : L2.St → XK) (ta : TE) (t : TA) : TE := fun τ H Q => ta τ H fun x H1 => ∃ a dx fs, x = .ref a ∧ H1 a = some (.ins C dx fs) ∧ fs.lookup mn = none ∧ t τ H1 fun vs H2 => sp (x :: vs) H2 Q (E τ)
theorem pe_methW {sp : Sp} {E : L2.St → XK} {ta : TE} {t : TA} {pl : Sem Bool} (po : PE X o ta) (cl : Cls X.K C) (me : Meth X.K C mn f) (F : FnG X.prog X.w X.K X.mg X.base k f fd ps sp) (room : Room k X.A) (gd : X.A.guards = some []) (bi : Binds X.K fd ps []) (px : ∀ τ, PassesAt (L2.CX X.prog X.w) X τ (E τ)) (pa : PA X (e :: es) t)
    (st : starEach (e :: es) X.env = (false, eval e X.env) :: starEach es X.env) (pl' : (backTo pos (starEach es X.env)).any (·.1) = false)
    (tree : eval (.Call (.Attribute o mn apos) (e :: es) [] pos) X.env = (do
      let recv ← eval o X.env
      standAt apos.atName
      let (fn, head) ← holding [recv] (getMethod recv mn pl)
      callWith pos fn head (backTo pos (starEach (e :: es) X.env)) (backToKw pos (keywordEach [] X.env)))) : PE X (.Call (.Attribute o mn apos) (e :: es) [] pos) (tMethS C mn sp E ta t) := by
  refine ⟨fun pins s τ H Q I h => ?_⟩
  refine PySem.W.methodCall_KW (pl := pl) (thn (po.run pins s τ H _ I h) fun u s1 ⟨x, H1, I1, rx, a, dx, fs, ex, ea, nl, q⟩ => ?_) tree
  subst ex
  cases rx
  refine getmeth_ok I1 ea cl me nl ?_
  refine PySem.W.callWith_K (first := [.ref a]) (h₀ := X.base) I.ok.mod.kin me.kp (thn (pa.run pos pins s1 τ H1 _ I1 q) fun us s2 ⟨vs, H2, I2, r, q2⟩ => ⟨I2.kIn, ?_⟩) st pl'
  exact run_fnG (us := .ref a :: us) (vs := .ref a :: vs) F room gd bi (px τ) I2 (.cons rfl r) q2
theorem pe_methW0 {sp : Sp} {E : L2.St → XK} {ta : TE} {pl : Sem Bool} (po : PE X o ta) (cl : Cls X.K C) (me : Meth X.K C mn f) (F : FnG X.prog X.w X.K X.mg X.base k f fd ps sp) (room : Room k X.A) (gd : X.A.guards = some []) (bi : Binds X.K fd ps []) (px : ∀ τ, PassesAt (L2.CX X.prog X.w) X τ (E τ))
    (tree : eval (.Call (.Attribute o mn apos) [] [] pos) X.env = (do
      let recv ← eval o X.env
      standAt apos.atName
      let (fn, head) ← holding [recv] (getMethod recv mn pl)
      callWith pos fn head (backTo pos (starEach [] X.env)) (backToKw pos (keywordEach [] X.env)))) : PE X (.Call (.Attribute o mn apos) [] [] pos) (tMethS C mn sp E ta tNil) := by
  refine ⟨fun pins s τ H Q I h => ?_⟩
  refine PySem.W.methodCall_KW (pl := pl) (thn (po.run pins s τ H _ I h) fun u s1 ⟨x, H1, I1, rx, a, dx, fs, ex, ea, nl, q⟩ => ?_) tree
  subst ex
  cases rx
  refine getmeth_ok I1 ea cl me nl ?_
  exact PySem.W.callWith_K0 (first := [.ref a]) I1.kIn me.kp (run_fnG (us := [.ref a]) (vs := [.ref a]) F room gd bi (px τ) I1 (.cons rfl .nil) q)
theorem meth_run {Cn : Nat} {t : TA} {ta : TE} (sl : ∀ σ h xs h', ms σ h = .ok xs h' → (xs.length + 1) = ps.length)
    (so : ∀ g σ h τ H Q, RelS (kx c X) g h.length σ τ → RelH (kx c X) g h H → Post (kx c X) (Rep (kx c X)) g h.length Q (at_ W τ) (mo σ h) → ta τ H Q)
    (sa : ∀ g σ h τ H Q, RelS (kx c X) g h.length σ τ → RelH (kx c X) g h H → Post (kx c X) (Reps (kx c X)) g h.length Q (at_ W τ) (ms σ h) → t τ H Q)
    (g : Gh) (σ : LS) (h : VH) (τ : L2.St) (H : Hp) (Q : VK) (rs : RelS (kx c X) g h.length σ τ) (rh : RelH (kx c X) g h H) (q : Post (kx c X) (Rep (kx c X)) g h.length Q (at_ W τ) (eMeth Cn mn m mo ms σ h)) :
    tMethS (c Cn) mn (spOf (kx c X) ps.length m) (WE W) ta t τ H Q := by
  refine so g σ h τ H _ rs rh ((Post.bind q).imp (fun u H1 ⟨g1, x, h1, m1, q1⟩ => ?_) fun _ _ _ z => z)
  unfold methP at q1
  split at q1
  · rename_i D fs e1
    split at q1
    · rename_i e2
      obtain ⟨rfl, e3⟩ := e2
      obtain ⟨a, dx, gs, rfl, hu, r⟩ := insAt_run m1.rep m1.rel e1
      refine ⟨a, dx, gs, rfl, hu, (RepF.lookup (f := mn) r).2 e3, ?_⟩
      refine sa g1 σ h1 τ H1 _ (rs.mono m1.le m1.len) m1.rel ?_
      have ln := fun xs h' => sl σ h1 xs h'
      generalize ms σ h1 = res at q1 ln
      cases res with
      | ok xs h' => exact fun g' us H' l hn rh' ru => ⟨g', h', x :: xs, ln xs h' rfl, Reps.cons (m1.rep.mono l hn) ru, rh', Post.up q1 l hn⟩
      | exc e' h' => exact q1
      | bad => exact q1
    · exact q1.elim
  · exact q1.elim
theorem SE.meth {Cn : Nat} {pl : Sem Bool} (ho : SE c X W o mo) (cl : Cls X.K (c Cn)) (me : Meth X.K (c Cn) mn f) (F : FnS c X.prog X.w X.K X.mg X.base k f fd ps m) (hr : Room k X.A) (hgd : X.A.guards = some []) (hb : Binds X.K fd ps []) (tk : Takes X W) (ha : SA c X W (e :: es) ms)
    (hn : (e :: es).length + 1 = ps.length := by rfl) (st : starEach (e :: es) X.env = (false, eval e X.env) :: starEach es X.env := by rfl) (pl' : (backTo pos (starEach es X.env)).any (·.1) = false := by rfl)
    (tree : eval (.Call (.Attribute o mn apos) (e :: es) [] pos) X.env = (do
      let recv ← eval o X.env
      standAt apos.atName
      let (fn, head) ← holding [recv] (getMethod recv mn pl)
      callWith pos fn head (backTo pos (starEach (e :: es) X.env)) (backToKw pos (keywordEach [] X.env))) := by rfl) : SE c X W (.Call (.Attribute o mn apos) (e :: es) [] pos) (eMeth Cn mn m mo ms) := by
  obtain ⟨to, po, so⟩ := ho
  obtain ⟨la, t, pa, s⟩ := ha
  exact ⟨_, pe_methW po cl me F.ok hr hgd hb (fun τ => passAt tk τ) pa st pl' tree, meth_run (fun σ h xs h' z => by rw [la σ h xs h' z]; exact hn) so s⟩
theorem SE.meth0 {Cn : Nat} {pl : Sem Bool} (ho : SE c X W o mo) (cl : Cls X.K (c Cn)) (me : Meth X.K (c Cn) mn f) (F : FnS c X.prog X.w X.K X.mg X.base k f fd ps m) (hr : Room k X.A) (hgd : X.A.guards = some []) (hb : Binds X.K fd ps []) (tk : Takes X W) (hn : 1 = ps.length := by rfl)
    (tree : eval (.Call (.Attribute o mn apos) [] [] pos) X.env = (do
      let recv ← eval o X.env
      standAt apos.atName
      let (fn, head) ← holding [recv] (getMethod recv mn pl)
      callWith pos fn head (backTo pos (starEach [] X.env)) (backToKw pos (keywordEach [] X.env))) := by rfl) : SE c X W (.Call (.Attribute o mn apos) [] [] pos) (eMeth Cn mn m mo aNil) := by
  obtain ⟨to, po, so⟩ := ho
  obtain ⟨la, t, pa, s⟩ := SA.nil (c := c) (X := X) (W := W)
  refine ⟨_, pe_methW0 po cl me F.ok hr hgd hb (fun τ => passAt tk τ) tree, meth_run (t := tNil) (fun σ h xs h' z => by cases z; exact hn) so fun g σ h τ H Q rs rh q => q g [] H (Gh.le.refl _ _) (Nat.le_refl _) rh Reps.nil⟩

/-! ### instances made -/
def tMakeS (C : Addr) (sp : Sp) (E : L2.St → XK) (t : TA) : TE := fun τ H Q => t τ H fun vs H1 => ∀ x dx, H1 x = none → H1 dx = none → dx ≠ x → sp (.ref x :: vs) (upd (upd H1 dx (.own x)) x (.ins C dx [])) (fun v H2 => v = .non ∧ Q (.ref x) H2) (E τ)
theorem make_guards {A : Around} {us : List Value} {kw : List (Str × Value)} : (A.under (.builtin "type.__call__" ⟨.ref C :: us, kw⟩)).guards = A.guards := by
  have e : (Code.builtin "type.__call__" ⟨.ref C :: us, kw⟩).guards = [] := by simp [Code.guards, Code.isGuard, guardIds]
  simp only [Around.under, e]
  cases A.guards <;> rfl
theorem run_makeW {sp : Sp} {E : XK} {pins : List (Addr × Obj)} {τ : L2.St} {H : Hp} {s : Shared} {Q : VK} {us : List Value} {vs : List V} (mk : Mk X.K C f) (F : FnG X.prog X.w X.K X.mg X.base k f fd ps sp) (room : Room (k + 1) X.A) (gd : X.A.guards = some []) (bi : Binds X.K fd ps [])
    (px : PassesAt (L2.CX X.prog X.w) X τ E) (I : Inv X pins τ H s) (r : Vals vs us) (h : ∀ x dx, H x = none → H dx = none → dx ≠ x → sp (.ref x :: vs) (upd (upd H dx (.own x)) x (.ins C dx [])) (fun v H2 => v = .non ∧ Q (.ref x) H2) E) :
    wpAny (model X.prog X.w) X.A (call (.ref C) us) (EP X pins τ Q) X.xe s := by
  have q0 := h (s.heap.objs.size + 1) s.heap.objs.size (I.hok.fresh (Nat.le_succ _)) (I.hok.fresh (Nat.le_refl _)) (Nat.ne_of_lt (Nat.lt_succ_self _))
  have J := Inv.made (C := C) I
  have rr : Vals (V.ref (s.heap.objs.size + 1) :: vs) (Value.ref (s.heap.objs.size + 1) :: us) := .cons rfl r
  have ln : (Value.ref (s.heap.objs.size + 1) :: us).length = ps.length := by rw [← rr.length]; exact F.len _ _ _ _ q0
  have b := bi _ (Value.ref (s.heap.objs.size + 1) :: us) J.kIn (by rw [List.append_nil]; exact ln)
  rw [List.append_nil] at b
  refine wpAny_call (make_map (f := f) I.kIn mk.makes mk.init (beq_iff_eq.mp mk.fn) (codeAny_mono (F.run _ X.stack _ _ ⟨Value.ref (s.heap.objs.size + 1) :: us, []⟩ _ _ _ E (room.make C us []) (make_guards.trans gd) (J.env0.make C us []) b rr q0) fun res s' hq => ?_))
  cases res with
  | error e => exact px pins _ _ e s' J hq
  | ok fl =>
    cases fl with
    | ret u =>
      obtain ⟨v, H', I3, rv, ev, q3⟩ := J.after hq
      subst ev
      exact ⟨rv, V.ref (s.heap.objs.size + 1), H', I3, rfl, q3⟩
    | next => exact hq.elim
    | brk => exact hq.elim
    | cont => exact hq.elim
theorem pe_makeW {sp : Sp} {E : L2.St → XK} {t : TA} (mk : Mk X.K C f) (F : FnG X.prog X.w X.K X.mg X.base k f fd ps sp) (room : Room (k + 1) X.A) (gd : X.A.guards = some []) (hg : Gl X x) (hm : X.mg x = some (.ref C)) (bi : Binds X.K fd ps []) (px : ∀ τ, PassesAt (L2.CX X.prog X.w) X τ (E τ)) (pa : PA X (e :: es) t)
    (hdb : (x == ("__debug__" : Str)) = false) (st : starEach (e :: es) X.env = (false, eval e X.env) :: starEach es X.env) (pl' : (backTo pos (starEach es X.env)).any (·.1) = false) : PE X (.Call (.Name x p) (e :: es) [] pos) (tMakeS C sp E t) := by
  refine ⟨fun pins s τ H Q I h => wpAny_Call_Name_kw (ld_glob I hg hm ?_ hdb)⟩
  exact PySem.W.callWith_K (h₀ := X.base) I.ok.mod.kin mk.kp (thn (pa.run pos pins s τ H _ I h) fun us s1 ⟨vs, H1, I1, r, q⟩ => ⟨I1.kIn, run_makeW mk F room gd bi (px τ) I1 r q⟩) st pl'
/-- C(..): a new cell, then __init__ -/
def makeP (C : Nat) (m : List PV → VH → Res PV) (xs : List PV) (h : VH) : Res PV := (m (.ref h.length :: xs) (h ++ [.ins C []])).bind fun v h2 => match v with
  | .non => .ok (.ref h.length) h2
  | _ => .bad
def eMake (C : Nat) (m : List PV → VH → Res PV) (ms : AM) : EM := eCall (makeP C m) ms
/-- a new object in a new cell -/
theorem RelH.push {K : Kc} {g : Gh} {h : VH} {H H' : Hp} {a : Addr} {o : PO} {u : HO} (r : RelH K g h H) (hs : Same H H') (na : H a = none) (hu : H' a = some u) (ro : RepO K { g with ρ := fun i => if i = h.length then a else g.ρ i } (h.length + 1) o u) :
    g.le h.length { g with ρ := fun i => if i = h.length then a else g.ρ i } ∧ RelH K { g with ρ := fun i => if i = h.length then a else g.ρ i } (h ++ [o]) H' := by
  have le : g.le h.length { g with ρ := fun i => if i = h.length then a else g.ρ i } := ⟨Same.refl _, fun i hi => if_neg (Nat.ne_of_lt hi), rfl⟩
  have ρe : ∀ {i}, i < h.length → (if i = h.length then a else g.ρ i) = g.ρ i := fun hi => if_neg (Nat.ne_of_lt hi)
  have old : ∀ {i p}, (h ++ [o])[i]? = some p → (i < h.length ∧ h[i]? = some p) ∨ (i = h.length ∧ p = o) := fun {i p} e => by
    by_cases hi : i < h.length
    · rw [List.getElem?_append_left hi] at e; exact .inl ⟨hi, e⟩
    · rw [List.getElem?_append_right (by omega)] at e
      have : i - h.length = 0 := by
        cases q : i - h.length with
        | zero => rfl
        | succ k => rw [q] at e; simp at e
      rw [this] at e
      exact .inr ⟨by omega, by simpa using e.symm⟩
  have ne : ∀ {i p}, h[i]? = some p → p ≠ .dead → g.ρ i ≠ a := fun {i p} e d z => by
    obtain ⟨u', hu', _⟩ := r.cell i p e d
    rw [z, na] at hu'; cases hu'
  refine ⟨le, fun b w e => hs b w (r.same b w e), fun i p e d => ?_, fun i p e d => ?_, fun i j p q e d e' d' z => ?_, fun b w e => ⟨hs _ _ (r.fr b w e).1, (r.fr b w e).2.1, fun i p e' d => ?_⟩, fun a2 dd e2 z => ?_⟩
  · rcases old e with ⟨hi, e⟩ | ⟨rfl, rfl⟩
    · obtain ⟨u', hu', ru⟩ := r.cell i p e d
      refine ⟨u', ?_, ?_⟩
      · show H' (if i = h.length then a else g.ρ i) = _
        rw [ρe hi]; exact hs _ _ hu'
      · rw [List.length_append]; exact ru.mono le (Nat.le_add_right _ _)
    · refine ⟨u, ?_, by rw [List.length_append]; exact ro⟩
      show H' (if h.length = h.length then a else _) = _
      rw [if_pos rfl]; exact hu
  · show g.Hf (if i = h.length then a else g.ρ i) = none
    rcases old e with ⟨hi, e⟩ | ⟨rfl, rfl⟩
    · rw [ρe hi]; exact r.sep i p e d
    · rw [if_pos rfl]; exact r.same.free na
  · have z : (if i = h.length then a else g.ρ i) = (if j = h.length then a else g.ρ j) := z
    rcases old e with ⟨hi, e1⟩ | ⟨ei, eo⟩
    · rcases old e' with ⟨hj, e2⟩ | ⟨ej, eo'⟩
      · rw [ρe hi, ρe hj] at z; exact r.inj i j p q e1 d e2 d' z
      · rw [ρe hi, if_pos ej] at z; exact absurd z (ne e1 d)
    · rcases old e' with ⟨hj, e2⟩ | ⟨ej, eo'⟩
      · rw [ρe hj, if_pos ei] at z; exact absurd z.symm (ne e2 d')
      · rw [ei, ej]
  · show (if i = h.length then a else g.ρ i) ≠ b
    rcases old e' with ⟨hi, e1⟩ | ⟨ei, eo⟩
    · rw [ρe hi]; exact (r.fr b w e).2.2 i p e1 d
    · rw [if_pos ei]; exact fun z => by have := (r.fr b w e).1; rw [← z, na] at this; cases this
  · obtain ⟨gs, e3, e4⟩ := r.ex a2 dd e2 z
    exact ⟨gs, e3, by rw [List.length_append]; exact e4.mono le (Nat.le_add_right _ _)⟩
theorem SE.make {Cn : Nat} (mk : Mk X.K (c Cn) f) (F : FnS c X.prog X.w X.K X.mg X.base k f fd ps m) (hr : Room (k + 1) X.A) (hgd : X.A.guards = some []) (hg : Gl X x) (hm : X.mg x = some (.ref (c Cn))) (hb : Binds X.K fd ps []) (tk : Takes X W) (ha : SA c X W (e :: es) ms)
    (hn : (e :: es).length + 1 = ps.length := by rfl) (hdb : (x == ("__debug__" : Str)) = false := by decide) (st : starEach (e :: es) X.env = (false, eval e X.env) :: starEach es X.env := by rfl) (pl' : (backTo pos (starEach es X.env)).any (·.1) = false := by rfl) :
    SE c X W (.Call (.Name x p) (e :: es) [] pos) (eMake Cn m ms) := by
  obtain ⟨la, t, pa, s⟩ := ha
  refine ⟨_, pe_makeW mk F.ok hr hgd hg hm hb (fun τ => passAt tk τ) pa hdb st pl', fun g σ h τ H Q rs rh q => ?_⟩
  refine s g σ h τ H _ rs rh ?_
  have ln := fun xs h' => la σ h xs h'
  dsimp only [eMake, eCall] at q
  generalize ms σ h = res at q ln
  cases res with
  | ok xs h' =>
    intro g1 us H1 l hn1 rh1 ru x dx nx ndx ne
    have q1 := Post.up q l hn1
    have sm : Same H1 (upd (upd H1 dx (.own x)) x (.ins (c Cn) dx [])) := fun b o e => by
      rw [upd_ne (ne_of_none e nx), upd_ne (ne_of_none e ndx)]; exact e
    obtain ⟨l2, rh2⟩ := RelH.push (o := .ins Cn []) rh1 sm nx upd_same ⟨dx, [], rfl, RepF.nil⟩
    have hl2 : (h' ++ [PO.ins Cn []]).length = h'.length + 1 := by simp
    refine ⟨_, _, .ref h'.length :: xs, by rw [List.length_cons, ln xs h' rfl]; exact hn, Reps.cons ?_ (ru.mono l2 (by rw [hl2]; exact Nat.le_succ _)), rh2, ?_⟩
    · simp only [Rep]
      exact ⟨by rw [hl2]; exact Nat.lt_succ_self _, by simp⟩
    · unfold makeP at q1
      rw [Res.bind_ok] at q1
      have q2 := Post.up q1 l2 (show h'.length ≤ (h' ++ [PO.ins Cn []]).length by rw [hl2]; exact Nat.le_succ _)
      generalize m (.ref h'.length :: xs) (h' ++ [PO.ins Cn []]) = r2 at q2
      cases r2 with
      | ok v h2 =>
        cases v with
        | non =>
          intro g3 u3 H3 l3 hn3 rh3 r3
          simp only [Rep] at r3
          refine ⟨r3, q2 g3 _ H3 l3 hn3 rh3 ?_⟩
          simp only [Rep]
          rw [hl2] at hn3
          refine ⟨by omega, ?_⟩
          rw [l3.rho h'.length (by rw [hl2]; exact Nat.lt_succ_self _)]
          simp
        | _ => exact q2.elim
      | exc e h2 => exact q2
      | bad => exact q2.elim
  | exc e' h' => exact q
  | bad => exact q
end
end Pm
namespace Pm
open PySem PySem.Spec L2 PyProof.Rows

/-! ### lists and tuples read -/
/-- the items of a list -/
def lstOf : PV → VH → Option (List PV)
  | .lst xs, _ => some xs
  | .scr xs, _ => some xs
  | .ref i, h => match h[i]? with
    | some (.lst xs) => some xs
    | _ => none
  | _, _ => none
@[simp] theorem lstOf_scr (xs : List PV) (h : VH) : lstOf (.scr xs) h = some xs := (rfl)
@[simp] theorem lstOf_lst (xs : List PV) (h : VH) : lstOf (.lst xs) h = some xs := (rfl)
theorem lstOf_ref {i : Nat} {xs : List PV} {h : VH} (e : h[i]? = some (.lst xs)) : lstOf (.ref i) h = some xs := by simp [lstOf, e]
theorem lstOf_run {K : Kc} {g : Gh} {h : VH} {H : Hp} {x : PV} {u : V} {xs : List PV} (rx : Rep K g h.length x u) (rh : RelH K g h H) (e : lstOf x h = some xs) : ∃ a us, u = .ref a ∧ SqL K.K H a us ∧ Reps K g h.length xs us := by
  cases x with
  | lst ys =>
    cases e
    simp only [Rep] at rx
    obtain ⟨a, us, rfl, s, r⟩ := rx
    exact ⟨a, us, rfl, .inl (.inl (rh.same _ _ s)), r⟩
  | scr ys =>
    cases e
    simp only [Rep] at rx
    obtain ⟨a, us, rfl, s, r⟩ := rx
    exact ⟨a, us, rfl, rh.same.seq s, r⟩
  | ref i =>
    simp only [Rep] at rx
    have e : (match h[i]? with
      | some (PO.lst xs) => some xs
      | _ => none) = some xs := e
    split at e
    · rename_i ys e1
      cases e
      obtain ⟨u', hu, ru⟩ := rh.cell i _ e1 (by intro z; cases z)
      obtain ⟨us, rfl, r⟩ := ru
      exact ⟨_, us, rx.2, .inl (.inl hu), r⟩
    · cases e
  | _ => cases e
/-- .. of one's own (not the script) -/
def trkOf : PV → VH → Option (List PV)
  | .lst xs, _ => some xs
  | .ref i, h => match h[i]? with
    | some (.lst xs) => some xs
    | _ => none
  | _, _ => none
@[simp] theorem trkOf_lst (xs : List PV) (h : VH) : trkOf (.lst xs) h = some xs := (rfl)
theorem trkOf_ref {i : Nat} {xs : List PV} {h : VH} (e : h[i]? = some (.lst xs)) : trkOf (.ref i) h = some xs := by simp [trkOf, e]
theorem trkOf_run {K : Kc} {g : Gh} {h : VH} {H : Hp} {x : PV} {u : V} {xs : List PV} (rx : Rep K g h.length x u) (rh : RelH K g h H) (e : trkOf x h = some xs) : ∃ a us, u = .ref a ∧ H a = some (.lst us) ∧ Reps K g h.length xs us := by
  cases x with
  | lst ys =>
    cases e
    simp only [Rep] at rx
    obtain ⟨a, us, rfl, s, r⟩ := rx
    exact ⟨a, us, rfl, rh.same _ _ s, r⟩
  | ref i =>
    simp only [Rep] at rx
    have e : (match h[i]? with
      | some (PO.lst xs) => some xs
      | _ => none) = some xs := e
    split at e
    · rename_i ys e1
      cases e
      obtain ⟨u', hu, ru⟩ := rh.cell i _ e1 (by intro z; cases z)
      obtain ⟨us, rfl, r⟩ := ru
      exact ⟨_, us, rx.2, hu, r⟩
    · cases e
  | _ => cases e
/-- a list or a tuple -/
def seqOf : PV → VH → Option (List PV)
  | .tup xs, _ => some xs
  | x, h => lstOf x h
@[simp] theorem seqOf_tup (xs : List PV) (h : VH) : seqOf (.tup xs) h = some xs := (rfl)
@[simp] theorem seqOf_scr (xs : List PV) (h : VH) : seqOf (.scr xs) h = some xs := (rfl)
@[simp] theorem seqOf_lst (xs : List PV) (h : VH) : seqOf (.lst xs) h = some xs := (rfl)
theorem seqOf_ref {i : Nat} {xs : List PV} {h : VH} (e : h[i]? = some (.lst xs)) : seqOf (.ref i) h = some xs := by simp [seqOf, lstOf, e]
theorem tup_run {K : Kc} {g : Gh} {h : VH} {H : Hp} {u : V} {xs : List PV} (rx : Rep K g h.length (.tup xs) u) (rh : RelH K g h H) : ∃ a us, u = .ref a ∧ H a = some (.tup us) ∧ Reps K g h.length xs us := by
  simp only [Rep] at rx
  obtain ⟨a, us, rfl, s, r⟩ := rx
  exact ⟨a, us, rfl, rh.same _ _ s, r⟩
theorem seqOf_run {K : Kc} {g : Gh} {h : VH} {H : Hp} {x : PV} {u : V} {xs : List PV} (rx : Rep K g h.length x u) (rh : RelH K g h H) (e : seqOf x h = some xs) : ∃ a us, u = .ref a ∧ (SqL K.K H a us ∨ SqT K.K H a us) ∧ Reps K g h.length xs us := by
  cases x with
  | tup ys =>
    cases e
    obtain ⟨a, us, rfl, s, r⟩ := tup_run rx rh
    exact ⟨a, us, rfl, .inr (.inl (.inl s)), r⟩
  | lst ys =>
    obtain ⟨a, us, rfl, s, r⟩ := lstOf_run rx rh e
    exact ⟨a, us, rfl, .inl s, r⟩
  | scr ys =>
    obtain ⟨a, us, rfl, s, r⟩ := lstOf_run rx rh e
    exact ⟨a, us, rfl, .inl s, r⟩
  | ref i =>
    obtain ⟨a, us, rfl, s, r⟩ := lstOf_run rx rh e
    exact ⟨a, us, rfl, .inl s, r⟩
  | _ => cases e

/-! ### new lists and tuples -/
/-- a new frozen thing at p -/
theorem RelH.frz {K : Kc} {g : Gh} {h : VH} {H : Hp} {p : Addr} {o : HO} (r : RelH K g h H) (np : H p = none) :
    g.le h.length { g with Hf := upd g.Hf p o } ∧ RelH K { g with Hf := upd g.Hf p o } h (upd H p o) := by
  have nf : g.Hf p = none := r.same.free np
  have le : g.le h.length { g with Hf := upd g.Hf p o } := ⟨fun b w e => (upd_ne (ne_of_none e nf)).trans e, fun _ _ => rfl, rfl⟩
  refine ⟨le, fun b w e => ?_, fun i q e d => ?_, fun i q e d => ?_, r.inj, fun b w e => ?_, fun a2 dd e2 z => ?_⟩
  · by_cases hb : b = p
    · subst hb
      have e : upd g.Hf b o b = some w := e
      rw [upd_same] at e; cases e; exact upd_same
    · have e : upd g.Hf p o b = some w := e
      rw [upd_ne hb] at e
      rw [upd_ne hb]
      exact r.same _ _ e
  · obtain ⟨u, hu, ru⟩ := r.cell i q e d
    exact ⟨u, by rw [upd_ne (ne_of_none hu np)]; exact hu, ru.mono le (Nat.le_refl _)⟩
  · obtain ⟨u, hu, ru⟩ := r.cell i q e d
    show upd g.Hf p o (g.ρ i) = none
    rw [upd_ne (ne_of_none hu np)]
    exact r.sep i q e d
  · obtain ⟨h1, h2, h3⟩ := r.fr b w e
    have nb : b ≠ p := ne_of_none h1 np
    exact ⟨by rw [upd_ne nb]; exact h1, by show upd g.Hf p o b = none; rw [upd_ne nb]; exact h2, h3⟩
  · obtain ⟨gs, e3, e4⟩ := r.ex a2 dd e2 z
    exact ⟨gs, le.same _ _ e3, e4.mono le (Nat.le_refl _)⟩
theorem tup_new {K : Kc} {g : Gh} {h : VH} {H : Hp} {xs : List PV} {us : List V} {Q : VK} {E : XK} (rh : RelH K g h H) (r : Reps K g h.length xs us) (p : Post K (Rep K) g h.length Q E (.ok (.tup xs) h)) : ∀ q, H q = none → Q (.ref q) (upd H q (.tup us)) := fun q nq => by
  obtain ⟨le, rh'⟩ := RelH.frz (o := .tup us) rh nq
  refine p _ _ _ le (Nat.le_refl _) rh' ?_
  simp only [Rep]
  exact ⟨q, us, rfl, upd_same, r.mono le (Nat.le_refl _)⟩
/-- a new list: in a cell, or for reading alone -/
def mkL (cell : Bool) (xs : List PV) (h : VH) : Res PV := match cell with
  | true => .ok (.ref h.length) (h ++ [.lst xs])
  | false => .ok (.lst xs) h
@[simp] theorem mkL_t (xs : List PV) (h : VH) : mkL true xs h = .ok (.ref h.length) (h ++ [.lst xs]) := (rfl)
@[simp] theorem mkL_f (xs : List PV) (h : VH) : mkL false xs h = .ok (.lst xs) h := (rfl)
theorem mkL_new {K : Kc} {g : Gh} {h : VH} {H : Hp} {cell : Bool} {xs : List PV} {us : List V} {Q : VK} {E : XK} (rh : RelH K g h H) (r : Reps K g h.length xs us) (p : Post K (Rep K) g h.length Q E (mkL cell xs h)) : ∀ q, H q = none → Q (.ref q) (upd H q (.lst us)) := fun q nq => by
  cases cell with
  | false =>
    obtain ⟨le, rh'⟩ := RelH.frz (o := .lst us) rh nq
    refine p _ _ _ le (Nat.le_refl _) rh' ?_
    simp only [Rep]
    exact ⟨q, us, rfl, upd_same, r.mono le (Nat.le_refl _)⟩
  | true =>
    have sm : Same H (upd H q (.lst us)) := fun b o e => by rw [upd_ne (ne_of_none e nq)]; exact e
    have l0 : g.le h.length { g with ρ := fun i => if i = h.length then q else g.ρ i } := ⟨Same.refl _, fun i hi => if_neg (Nat.ne_of_lt hi), rfl⟩
    obtain ⟨le, rh'⟩ := RelH.push (o := .lst xs) rh sm nq upd_same ⟨us, rfl, r.mono l0 (Nat.le_succ _)⟩
    refine p _ _ _ le (by simp) rh' ?_
    simp only [Rep]
    simp
section
variable {c : Ck} {X : Cx} {W : WX} {pos : Pos} {e : Expr} {es : List Expr} {m : EM} {ms : AM}
def eTup (ms : AM) : EM := fun σ h => (ms σ h).bind fun xs h1 => .ok (.tup xs) h1
def eLst (cell : Bool) (ms : AM) : EM := fun σ h => (ms σ h).bind fun xs h1 => mkL cell xs h1
theorem SE.tup {k} (ha : SA c X W es ms) (hz : decide (es.length ≤ 16777216) = true := by decide) : SE c X W (.Tuple es k pos) (eTup ms) := by
  obtain ⟨la, t, p, s⟩ := ha
  refine ⟨_, pe_tup p, fun g σ h τ H Q rs rh q => s g σ h τ H _ rs rh ?_⟩
  have ln := fun xs h' => la σ h xs h'
  dsimp only [eTup] at q
  generalize ms σ h = res at q ln
  cases res with
  | ok xs h' =>
    intro g1 us H1 l hn rh1 ru
    refine ⟨by rw [ru.length, ln xs h' rfl, sizeLine_eq]; exact of_decide_eq_true hz, tup_new (E := at_ W τ) rh1 ru (Post.up q l hn)⟩
  | exc e' h' => exact q
  | bad => exact q
theorem SE.lst (cell : Bool) (ha : SA c X W es ms) (hz : decide (es.length ≤ 16777216) = true := by decide) : SE c X W (.List es pos) (eLst cell ms) := by
  obtain ⟨la, t, p, s⟩ := ha
  refine ⟨_, pe_lst p, fun g σ h τ H Q rs rh q => s g σ h τ H _ rs rh ?_⟩
  have ln := fun xs h' => la σ h xs h'
  dsimp only [eLst] at q
  generalize ms σ h = res at q ln
  cases res with
  | ok xs h' =>
    intro g1 us H1 l hn rh1 ru
    refine ⟨by rw [ru.length, ln xs h' rfl, sizeLine_eq]; exact of_decide_eq_true hz, mkL_new (E := at_ W τ) rh1 ru (Post.up q l hn)⟩
  | exc e' h' => exact q
  | bad => exact q

/-! ### arithmetic -/
def addP (cell : Bool) : PV → PV → VH → Res PV
  | .int i, .int j, h => .ok (.int (i + j)) h
  | .str a, .str b, h => if a.length + b.length ≤ 16777216 then .ok (.str (a ++ b)) h else .bad
  | .tup xs, .tup ys, h => if xs.length + ys.length ≤ 16777216 then .ok (.tup (xs ++ ys)) h else .bad
  | x, y, h => match trkOf x h, trkOf y h with
    | some xs, some ys => if xs.length + ys.length ≤ 16777216 then mkL cell (xs ++ ys) h else .bad
    | _, _ => .bad
@[simp] theorem addP_int (b : Bool) (i j : Int) (h : VH) : addP b (.int i) (.int j) h = .ok (.int (i + j)) h := (rfl)
@[simp] theorem addP_str (b : Bool) (i j : Str) (h : VH) : addP b (.str i) (.str j) h = if i.length + j.length ≤ 16777216 then .ok (.str (i ++ j)) h else .bad := (rfl)
@[simp] theorem addP_tup (b : Bool) (i j : List PV) (h : VH) : addP b (.tup i) (.tup j) h = if i.length + j.length ≤ 16777216 then .ok (.tup (i ++ j)) h else .bad := (rfl)
@[simp] theorem addP_lst (b : Bool) (i j : List PV) (h : VH) : addP b (.lst i) (.lst j) h = if i.length + j.length ≤ 16777216 then mkL b (i ++ j) h else .bad := (rfl)
def rAddAll (K : PySem.W.Frag) : R2 := fun x y H Q => rI0 (fun i j => .int (i + j)) x y H Q ∨ (∃ i j, x = .str i ∧ y = .str j ∧ i.length + j.length ≤ sizeLine ∧ Q (.str (i ++ j)) H) ∨ rCatA K x y H Q ∨ rCat x y H Q
theorem op_addAll : OpR X (binaryOp .Add) (rAddAll X.K) := op_add.or (op_add_str.or (op_catA.or op_cat))
theorem Post.go {α β : Type} {K : Kc} {R : Gh → Nat → α → β → Prop} {g : Gh} {h : VH} {H : Hp} {Q : β → Hp → Prop} {E : XK} {a : α} {u : β} (p : Post K R g h.length Q E (.ok a h)) (rh : RelH K g h H) (r : R g h.length a u) : Q u H := p g u H (Gh.le.refl _ _) (Nat.le_refl _) rh r
theorem addS (cell : Bool) : OpS c X (rAddAll X.K) (addP cell) := by
  intro g h H x y u v Q E rx ry rh p
  have lists : ∀ {xs ys : List PV}, trkOf x h = some xs → trkOf y h = some ys → Post (kx c X) (Rep (kx c X)) g h.length Q E (if xs.length + ys.length ≤ 16777216 then mkL cell (xs ++ ys) h else .bad) → rAddAll X.K u v H Q := by
    intro xs ys ex ey q
    split at q
    · rename_i hz
      obtain ⟨a, us, rfl, ha, r1⟩ := trkOf_run rx rh ex
      obtain ⟨b, vs, rfl, hb, r2⟩ := trkOf_run ry rh ey
      exact .inr (.inr (.inr ⟨a, b, us, vs, rfl, rfl, ha, hb, by rw [r1.length, r2.length, sizeLine_eq]; exact hz, mkL_new rh (r1.append r2) q⟩))
    · exact q.elim
  unfold addP at p
  split at p
  · simp only [Rep] at rx ry
    subst rx ry
    exact .inl ⟨_, _, rfl, rfl, p.go rh (by simp only [Rep])⟩
  · simp only [Rep] at rx ry
    subst rx ry
    split at p
    · rename_i hz
      exact .inr (.inl ⟨_, _, rfl, rfl, by rw [sizeLine_eq]; exact hz, p.go rh (by simp only [Rep])⟩)
    · exact p.elim
  · split at p
    · rename_i xs ys hz
      obtain ⟨a, us, rfl, ha, r1⟩ := tup_run rx rh
      obtain ⟨b, vs, rfl, hb, r2⟩ := tup_run ry rh
      refine .inr (.inr (.inl ⟨a, b, us, vs, rfl, rfl, .inl (.inl ha), .inl (.inl hb), by rw [r1.length, r2.length, sizeLine_eq]; exact hz, fun e => ?_, fun e e' => ?_, fun _ _ => tup_new rh (r1.append r2) p⟩))
      · have : xs = [] := by cases xs with
          | nil => rfl
          | cons z zs => have := r1.length; rw [e] at this; simp at this
        subst this
        exact p.go rh ry
      · have : ys = [] := by cases ys with
          | nil => rfl
          | cons z zs => have := r2.length; rw [e'] at this; simp at this
        subst this
        rw [List.append_nil] at p
        exact p.go rh rx
    · exact p.elim
  · split at p
    · exact lists ‹_› ‹_› p
    · exact p.elim
end
end Pm
namespace L2
open PySem PySem.Spec PyProof.Rows
theorem pm_tuple_mul1 (l : Addr) (items : Array Value) (n : Nat) (dd : Option Addr) (sl : Array (Option Value)) (u : Tok) :
    Meets (Builtin.«tuple.__mul__» ⟨[.ref l, .int 1 u], []⟩) (fun _ R s => s.heap.get? l = some { cls := .type "tuple", dict := dd, data := .seq items n, slots := sl } ∧
      R (.ok (.ret (Value.ref l))) s) :=
  .of_wp fun prog w A R s h => by
    obtain ⟨hp, g, d, tk, os⟩ := s
    obtain ⟨hl, h⟩ := h
    have f1 := AutoSeq1.idx_int
    wp_walk using wpAny_loadPart' hl
    repeat (first
      | (refine wpAny_ite_false (decide_eq_false (by decide)) ?_; wp_walk using wpAny_loadPart' hl)
      | (refine wpAny_ite_true (decide_eq_true (by simp)) ?_; wp_walk using wpAny_loadPart' hl))
    exact ⟨_, rfl, h⟩
theorem pm_tuple_mul0 (l : Addr) (items : Array Value) (n : Nat) (dd : Option Addr) (sl : Array (Option Value)) (x : Int) (u : Tok) (c0 : (decide (x < -(2 ^ 63)) || decide (x ≥ 2 ^ 63)) = false) (c1 : (items.isEmpty || x == 1) = false) (c2 : (decide (x ≤ 0) || items.isEmpty) = true) :
    Meets (Builtin.«tuple.__mul__» ⟨[.ref l, .int x u], []⟩) (fun _ R s => s.heap.get? l = some { cls := .type "tuple", dict := dd, data := .seq items n, slots := sl } ∧
      R (.ok (.ret (Value.ref s.heap.objs.size))) { s with heap := s.heap.push { cls := Value.type "tuple", data := Data.seq #[] }, toks := s.toks }) :=
  .of_wp fun prog w A R s h => by
    obtain ⟨hp, g, d, tk, os⟩ := s
    obtain ⟨hl, h⟩ := h
    have f1 := AutoSeq1.idx_int
    wp_walk using wpAny_loadPart' hl
    repeat (first
      | (refine wpAny_ite_false (decide_eq_false (by rw [c0]; exact Bool.false_ne_true)) ?_; wp_walk using wpAny_loadPart' hl)
      | (refine wpAny_ite_false (decide_eq_false (by rw [c1]; exact Bool.false_ne_true)) ?_; wp_walk using wpAny_loadPart' hl)
      | (refine wpAny_ite_true (decide_eq_true c2) ?_; wp_walk using wpAny_loadPart' hl))
    exact ⟨_, rfl, h⟩
def rRepT1 (K : PySem.W.Frag) : R2 := fun x y H Q => ∃ l k xs, x = .ref l ∧ y = .int k ∧ SqT K H l xs ∧ xs ≠ [] ∧ -1000 ≤ k ∧ k ≤ 1 ∧ (k = 1 → Q (.ref l) H) ∧ (k ≤ 0 → ∀ p, H p = none → Q (.ref p) (upd H p (.tup [])))
theorem op_repT1 {X : Cx} : OpR X (binaryOp .Mult) (rRepT1 X.K) := by
  intro pins s σ H x y v u Q I rx ry h
  obtain ⟨l, k, xs, rfl, rfl, hT, hne, h1, h2, q1, q0⟩ := h
  cases rx
  obtain ⟨t, rfl⟩ := ry
  obtain ⟨its, r, ⟨⟨cls, dd, data, sl⟩, ho, hc, n, hd⟩, hs⟩ := I.tuple hT
  simp only at hc hd
  subst hc hd
  have hle : its.length = xs.length := r.length.symm
  have hn : its ≠ [] := fun e => hne (by
    rw [e] at hle
    exact List.eq_nil_of_length_eq_zero hle.symm)
  have hi : its.toArray.isEmpty = false := by
    cases its with
    | nil => exact absurd rfl hn
    | cons a b => rfl
  by_cases hk : k = 1
  · subst hk
    exact wpAny_binaryOp_repeat_ref (T := "tuple") (U := "int") (by decide) ⟨_, ho, rfl⟩ (fun s' => typeIs_int s' 1 t) noFill_tuple_mul F.fills_int_mul F.slot_int_rmul repeat_tuple F.slot_int_index.lookup
      (call_meets F.slot_int_rmul (typeIs_int s 1 t) F.entry_int_rmul (F.args_int_rmul_2 _ _) (int_rmul_tuple 1 t l its.toArray n dd sl)
        ⟨ho, rfl, ⟨_, ho, rfl⟩, call_meets F.slot_tuple_mul ⟨_, ho, rfl⟩ F.entry_tuple_mul (F.args_tuple_mul_2 _ _) (pm_tuple_mul1 l its.toArray n dd sl t) ⟨ho, .ref l, H, I, rfl, q1 rfl⟩⟩)
  · have c0 : (decide (k < -(2 ^ 63)) || decide (k ≥ 2 ^ 63)) = false := by
      rw [decide_eq_false (by omega), decide_eq_false (by omega)] <;> rfl
    have c1 : (its.toArray.isEmpty || k == 1) = false := by
      rw [hi, Bool.false_or]
      exact beq_eq_false_iff_ne.mpr hk
    have c2 : (decide (k ≤ 0) || its.toArray.isEmpty) = true := by
      rw [hi, Bool.or_false]
      exact decide_eq_true (by omega)
    refine wpAny_binaryOp_repeat_ref (T := "tuple") (U := "int") (by decide) ⟨_, ho, rfl⟩ (fun s' => typeIs_int s' k t) noFill_tuple_mul F.fills_int_mul F.slot_int_rmul repeat_tuple F.slot_int_index.lookup
      (call_meets F.slot_int_rmul (typeIs_int s k t) F.entry_int_rmul (F.args_int_rmul_2 _ _) (int_rmul_tuple k t l its.toArray n dd sl)
        ⟨ho, rfl, ⟨_, ho, rfl⟩, call_meets F.slot_tuple_mul ⟨_, ho, rfl⟩ F.entry_tuple_mul (F.args_tuple_mul_2 _ _) (pm_tuple_mul0 l its.toArray n dd sl k t c0 c1 c2) ⟨ho, ?_⟩⟩)
    refine ⟨.ref s.heap.objs.size, _, I.laid (t' := s.toks) (o := .tup []) (fun b ob q => Heap.get?_push_of_some _ q) (Nat.le_refl _) ?_, rfl, q0 (by omega) _ (I.hok.fresh (Nat.le_refl _))⟩
    exact ⟨by rw [sizeLine_eq]; decide, [], .nil, IsTup.new _ _⟩
end L2
namespace Pm
open PySem PySem.Spec L2 PyProof.Rows
section
variable {c : Ck} {X : Cx} {W : WX} {pos : Pos} {e : Expr} {es : List Expr} {m : EM} {ms : AM}

/-! ### ints -/
open Classical in
noncomputable def int2 (C : Int → Int → Prop) (gp : Int → Int → PV) : PV → PV → VH → Res PV
  | .int i, .int j, h => if C i j then .ok (gp i j) h else .bad
  | _, _, _ => .bad
theorem int2_ok {C : Int → Int → Prop} {gp : Int → Int → PV} {i j : Int} {h : VH} (z : C i j) : int2 C gp (.int i) (.int j) h = .ok (gp i j) h := if_pos z
theorem int2_run {C : Int → Int → Prop} {gp : Int → Int → PV} {K : Kc} {g : Gh} {h : VH} {x y : PV} {u v : V} {Q : VK} {E : XK} (rx : Rep K g h.length x u) (ry : Rep K g h.length y v) (p : Post K (Rep K) g h.length Q E (int2 C gp x y h)) :
    ∃ i j, u = .int i ∧ v = .int j ∧ C i j ∧ Post K (Rep K) g h.length Q E (.ok (gp i j) h) := by
  unfold int2 at p
  split at p
  · split at p
    · simp only [Rep] at rx ry
      exact ⟨_, _, rx, ry, ‹_›, p⟩
    · exact p.elim
  · exact p.elim
theorem OpS.i2 {C : Int → Int → Prop} {gv : Int → Int → V} {gp : Int → Int → PV} (hg : ∀ (K : Kc) g n i j, Rep K g n (gp i j) (gv i j)) : OpS c X (rI C gv) (int2 C gp) := fun g h H x y u v Q E rx ry rh p => by
  obtain ⟨i, j, rfl, rfl, z, p⟩ := int2_run rx ry p
  exact ⟨i, j, rfl, rfl, z, p.go rh (hg _ _ _ _ _)⟩
def int2' (gp : Int → Int → PV) : PV → PV → VH → Res PV
  | .int i, .int j, h => .ok (gp i j) h
  | _, _, _ => .bad
@[simp] theorem int2'_ok {gp : Int → Int → PV} {i j : Int} {h : VH} : int2' gp (.int i) (.int j) h = .ok (gp i j) h := (rfl)
theorem OpS.i2' {gv : Int → Int → V} {gp : Int → Int → PV} (hg : ∀ (K : Kc) g n i j, Rep K g n (gp i j) (gv i j)) : OpS c X (rI0 gv) (int2' gp) := fun g h H x y u v Q E rx ry rh p => by
  unfold int2' at p
  split at p
  · simp only [Rep] at rx ry
    exact ⟨_, _, rx, ry, p.go rh (hg _ _ _ _ _)⟩
  · exact p.elim
theorem repI {K : Kc} {g : Gh} {n : Nat} {i : Int} : Rep K g n (.int i) (.int i) := by simp only [Rep]
theorem repB {K : Kc} {g : Gh} {n : Nat} {i : Bool} : Rep K g n (.bl i) (.bl i) := by simp only [Rep]
theorem repS {K : Kc} {g : Gh} {n : Nat} {i : Str} : Rep K g n (.str i) (.str i) := by simp only [Rep]
theorem repN {K : Kc} {g : Gh} {n : Nat} : Rep K g n .non .non := by simp only [Rep]
abbrev subP : PV → PV → VH → Res PV := int2' fun i j => .int (i - j)
theorem subS : OpS c X (rI0 fun i j => .int (i - j)) subP := OpS.i2' fun _ _ _ _ _ => repI
abbrev ltP : PV → PV → VH → Res PV := int2' fun i j => .bl (decide (i < j))
abbrev leP : PV → PV → VH → Res PV := int2' fun i j => .bl (decide (i ≤ j))
abbrev gtP : PV → PV → VH → Res PV := int2' fun i j => .bl (decide (j < i))
abbrev geP : PV → PV → VH → Res PV := int2' fun i j => .bl (decide (j ≤ i))
theorem ltS : OpS c X (rI0 fun i j => .bl (decide (i < j))) ltP := OpS.i2' fun _ _ _ _ _ => repB
theorem leS : OpS c X (rI0 fun i j => .bl (decide (i ≤ j))) leP := OpS.i2' fun _ _ _ _ _ => repB
theorem gtS : OpS c X (rI0 fun i j => .bl (decide (j < i))) gtP := OpS.i2' fun _ _ _ _ _ => repB
theorem geS : OpS c X (rI0 fun i j => .bl (decide (j ≤ i))) geP := OpS.i2' fun _ _ _ _ _ => repB
noncomputable abbrev modP : PV → PV → VH → Res PV := int2 (fun _ j => 0 < j) fun i j => .int (i % j)
theorem modS : OpS c X (rI (fun _ j => 0 < j) fun i j => .int (i % j)) modP := OpS.i2 fun _ _ _ _ _ => repI
def DivC (i j : Int) : Prop := CDiv i j ∨ CDivW i j
noncomputable abbrev divP : PV → PV → VH → Res PV := int2 DivC fun i j => .int (i / j)
def rDiv : R2 := fun x y H Q => rI CDiv (fun i j => .int (i / j)) x y H Q ∨ rI CDivW (fun i j => .int (i / j)) x y H Q
theorem op_div : OpR X (binaryOp .FloorDiv) rDiv := op_fdiv.or op_fdivW
theorem divS : OpS c X rDiv divP := fun g h H x y u v Q E rx ry rh p => by
  obtain ⟨i, j, rfl, rfl, z, p⟩ := int2_run rx ry p
  rcases z with z | z
  · exact .inl ⟨i, j, rfl, rfl, z, p.go rh repI⟩
  · exact .inr ⟨i, j, rfl, rfl, z, p.go rh repI⟩
theorem divC_small {i j : Int} (h : 0 < j) (h' : j < 1073741824) : DivC i j := .inl ⟨h, h'⟩
noncomputable abbrev powP : PV → PV → VH → Res PV := int2 CPow fun i j => .int (i ^ j.toNat)
theorem powS : OpS c X (rI CPow fun i j => .int (i ^ j.toNat)) powP := OpS.i2 fun _ _ _ _ _ => repI
noncomputable abbrev shlP : PV → PV → VH → Res PV := int2 CPow fun i j => .int (i * 2 ^ j.toNat)
theorem shlS : OpS c X (rI CPow fun i j => .int (i * 2 ^ j.toNat)) shlP := OpS.i2 fun _ _ _ _ _ => repI
abbrev andP : PV → PV → VH → Res PV := int2' fun i j => .int (Builtin.bitAnd i j)
theorem andS : OpS c X (rI0 fun i j => .int (Builtin.bitAnd i j)) andP := OpS.i2' fun _ _ _ _ _ => repI
abbrev xorP : PV → PV → VH → Res PV := int2' fun i j => .int (Builtin.bitXor i j)
theorem xorS : OpS c X (rI0 fun i j => .int (Builtin.bitXor i j)) xorP := OpS.i2' fun _ _ _ _ _ => repI
def negP : PV → VH → Res PV
  | .int i, h => .ok (.int (-i)) h
  | _, _ => .bad
@[simp] theorem negP_int (i : Int) (h : VH) : negP (.int i) h = .ok (.int (-i)) h := (rfl)
theorem negS : UnS c X (rU fun i => .int (-i)) negP := fun g h H x u Q E rx rh p => by
  cases x with
  | int i =>
    simp only [Rep] at rx
    exact ⟨i, rx, p.go rh repI⟩
  | _ => exact p.elim

/-! ### products -/
def MulC (i j : Int) : Prop := CMul i j ∨ CMulW i j
theorem MulC.left {i j : Int} (h1 : -(2 ^ 64) < i) (h2 : i < 2 ^ 64) : MulC i j := .inl (.inl ⟨h1, h2⟩)
theorem MulC.right {i j : Int} (h1 : -(2 ^ 64) < j) (h2 : j < 2 ^ 64) : MulC i j := .inl (.inr ⟨h1, h2⟩)
open Classical in
noncomputable def mulP (cell : Bool) : PV → PV → VH → Res PV
  | .int i, .int j, h => if MulC i j then .ok (.int (i * j)) h else .bad
  | .str a, .int n, h => if a.length ≤ 1000 ∧ -1000 ≤ n ∧ n ≤ 1000 then .ok (.str (Txt.mul a n)) h else .bad
  | .tup xs, .int n, h => if xs ≠ [] ∧ -1000 ≤ n ∧ n ≤ 1000 ∧ xs.length ≤ 1000 then .ok (.tup (List.replicate n.toNat xs).flatten) h else .bad
  | x, .int n, h => match trkOf x h with
    | some xs => if -1000000 ≤ n ∧ xs.length * n.toNat ≤ 16777216 ∧ n ≤ 16777216 then mkL cell (List.replicate n.toNat xs).flatten h else .bad
    | none => .bad
  | _, _, _ => .bad
theorem mulP_int {cell : Bool} {i j : Int} {h : VH} (z : MulC i j) : mulP cell (.int i) (.int j) h = .ok (.int (i * j)) h := if_pos z
theorem mulP_lst {cell : Bool} {xs : List PV} {n : Int} {h : VH} (z : -1000000 ≤ n ∧ xs.length * n.toNat ≤ 16777216 ∧ n ≤ 16777216) : mulP cell (.lst xs) (.int n) h = mkL cell (List.replicate n.toNat xs).flatten h := if_pos z
theorem mulP_tup {cell : Bool} {xs : List PV} {n : Int} {h : VH} (z : xs ≠ [] ∧ -1000 ≤ n ∧ n ≤ 1000 ∧ xs.length ≤ 1000) : mulP cell (.tup xs) (.int n) h = .ok (.tup (List.replicate n.toNat xs).flatten) h := if_pos z
theorem mulP_str {cell : Bool} {a : Str} {n : Int} {h : VH} (z : a.length ≤ 1000 ∧ -1000 ≤ n ∧ n ≤ 1000) : mulP cell (.str a) (.int n) h = .ok (.str (Txt.mul a n)) h := if_pos z
def rMulS : R2 := fun x y H Q => ∃ a n, x = .str a ∧ y = .int n ∧ a.length ≤ 1000 ∧ -1000 ≤ n ∧ n ≤ 1000 ∧ Q (.str (Txt.mul a n)) H
theorem op_mulS : OpR X (binaryOp .Mult) rMulS := by
  intro pins s τ H x y v u Q I rx ry hh
  obtain ⟨a, n, rfl, rfl, h1, h2, h3, q⟩ := hh
  obtain ⟨t, rfl⟩ := rx
  obtain ⟨t', rfl⟩ := ry
  exact PySem.SB.mul (PyProof.Rows.mulOk_of 1000 1000 h1 h3 (by omega) (by decide) (by decide)) fun t2 k => ⟨.str _, H, I.tok _, ⟨_, rfl⟩, q⟩
def rMulAll (K : PySem.W.Frag) : R2 := fun x y H Q => rI CMul (fun i j => .int (i * j)) x y H Q ∨ rI CMulW (fun i j => .int (i * j)) x y H Q ∨ rMulS x y H Q ∨ rRepT K x y H Q ∨ rRep x y H Q ∨ rRepT1 K x y H Q
theorem op_mulAll : OpR X (binaryOp .Mult) (rMulAll X.K) := op_mul.or (op_mulW.or (op_mulS.or (op_repT.or (op_rep.or op_repT1))))
theorem Reps.rep {K : Kc} {g : Gh} {n : Nat} {xs : List PV} {us : List V} (r : Reps K g n xs us) : ∀ k : Nat, Reps K g n (List.replicate k xs).flatten (List.replicate k us).flatten
  | 0 => by simp only [List.replicate_zero, List.flatten_nil]; exact Reps.nil
  | k + 1 => by
    simp only [List.replicate_succ, List.flatten_cons]
    exact Reps.append r (Reps.rep r k)
theorem mulS (cell : Bool) : OpS c X (rMulAll X.K) (mulP cell) := fun g h H x y u v Q E rx ry rh p => by
  unfold mulP at p
  split at p
  · split at p
    · rename_i z
      simp only [Rep] at rx ry
      rcases z with z | z
      · exact .inl ⟨_, _, rx, ry, z, p.go rh repI⟩
      · exact .inr (.inl ⟨_, _, rx, ry, z, p.go rh repI⟩)
    · exact p.elim
  · split at p
    · rename_i z
      simp only [Rep] at rx ry
      exact .inr (.inr (.inl ⟨_, _, rx, ry, z.1, z.2.1, z.2.2, p.go rh repS⟩))
    · exact p.elim
  · split at p
    · rename_i z
      simp only [Rep] at ry
      obtain ⟨a, us, rfl, ha, r⟩ := tup_run rx rh
      have hne : us ≠ [] := fun en => by
        have := r.length
        rw [en] at this
        exact z.1 (List.length_eq_zero_iff.mp this.symm)
      rename_i xs n
      by_cases h2 : 2 ≤ n
      · exact .inr (.inr (.inr (.inl ⟨a, _, us, rfl, ry, .inl (.inl ha), hne, h2, z.2.2.1, by rw [r.length]; exact z.2.2.2, tup_new rh (r.rep _) p⟩)))
      · refine .inr (.inr (.inr (.inr (.inr ⟨a, n, us, rfl, ry, .inl (.inl ha), hne, z.2.1, by omega, fun e1 => ?_, fun e0 => ?_⟩))))
        · subst e1
          have e : (List.replicate (1 : Int).toNat xs).flatten = xs := by show (List.replicate 1 xs).flatten = xs; simp
          rw [e] at p
          exact p.go rh rx
        · have e : n.toNat = 0 := by omega
          rw [e] at p
          exact tup_new rh Reps.nil p
    · exact p.elim
  · split at p
    · rename_i xs ex
      split at p
      · rename_i z
        simp only [Rep] at ry
        obtain ⟨a, us, rfl, ha, r⟩ := trkOf_run rx rh ex
        refine .inr (.inr (.inr (.inr (.inl ⟨a, _, us, rfl, ry, ha, by omega, by omega, by rw [r.length, sizeLine_eq]; exact z.2.1, mkL_new rh (r.rep _) p⟩))))
      · exact p.elim
    · exact p.elim
  · exact p.elim

/-! ### data: equality, what is shown -/
def allD (f : PV → Option PyData) : List PV → Option (List PyData)
  | [] => some []
  | x :: xs => match f x, allD f xs with
    | some d, some ds => some (d :: ds)
    | _, _ => none
def toD (h : VH) : Nat → PV → Option PyData
  | _, .non => some .none
  | _, .bl b => some (.bool b)
  | _, .int i => some (.int i)
  | _, .str s => some (.str s)
  | n + 1, .tup xs => (allD (toD h n) xs).map .tuple
  | n + 1, .lst xs => (allD (toD h n) xs).map .list
  | n + 1, .ref i => match h[i]? with
    | some (.lst xs) => (allD (toD h n) xs).map .list
    | _ => none
  | _, _ => none
theorem allD_run {K : Kc} {g : Gh} {h : VH} {H : Hp} {n : Nat} {f : PV → Option PyData} (hf : ∀ x u d, Rep K g h.length x u → f x = some d → Dp K.K H u d ∧ d.depth ≤ n) : ∀ {xs : List PV} {us : List V} {ds : List PyData}, Reps K g h.length xs us → allD f xs = some ds → DpAll K.K H us ds ∧ PyData.depthAll ds ≤ n
  | [], _, _, r, e => by
    simp only [Reps] at r
    subst r
    cases e
    exact ⟨.nil, by simp [PyData.depthAll]⟩
  | x :: xs, _, _, r, e => by
    simp only [Reps] at r
    obtain ⟨u, us', rfl, a, b⟩ := r
    unfold allD at e
    split at e
    · rename_i d ds' e1 e2
      cases e
      obtain ⟨h1, h2⟩ := hf x u d a e1
      obtain ⟨h3, h4⟩ := allD_run hf b e2
      exact ⟨.cons h1 h3, by simp only [PyData.depthAll]; omega⟩
    · cases e
theorem toD_run {K : Kc} {g : Gh} {h : VH} {H : Hp} (rh : RelH K g h H) : ∀ (n : Nat) {x : PV} {u : V} {d : PyData}, Rep K g h.length x u → toD h n x = some d → Dp K.K H u d ∧ d.depth ≤ n + 1
  | 0, x, u, d, r, e => by
    cases x with
    | non => simp only [Rep] at r; subst r; cases e; exact ⟨.non, by simp [PyData.depth]⟩
    | bl b => simp only [Rep] at r; subst r; cases e; exact ⟨.bl b, by simp [PyData.depth]⟩
    | int b => simp only [Rep] at r; subst r; cases e; exact ⟨.int b, by simp [PyData.depth]⟩
    | str b => simp only [Rep] at r; subst r; cases e; exact ⟨.str b, by simp [PyData.depth]⟩
    | _ => cases e
  | n + 1, x, u, d, r, e => by
    have ih : ∀ x u d, Rep K g h.length x u → toD h n x = some d → Dp K.K H u d ∧ d.depth ≤ n + 1 := fun x u d r e => toD_run rh n r e
    cases x with
    | non => simp only [Rep] at r; subst r; cases e; exact ⟨.non, by simp [PyData.depth]⟩
    | bl b => simp only [Rep] at r; subst r; cases e; exact ⟨.bl b, by simp [PyData.depth]⟩
    | int b => simp only [Rep] at r; subst r; cases e; exact ⟨.int b, by simp [PyData.depth]⟩
    | str b => simp only [Rep] at r; subst r; cases e; exact ⟨.str b, by simp [PyData.depth]⟩
    | tup xs =>
      obtain ⟨a, us, rfl, ha, rr⟩ := tup_run r rh
      unfold toD at e
      obtain ⟨ds, e1, rfl⟩ := Option.map_eq_some_iff.mp e
      obtain ⟨h1, h2⟩ := allD_run ih rr e1
      exact ⟨.tup (.inl (.inl ha)) h1, by simp only [PyData.depth]; omega⟩
    | lst xs =>
      obtain ⟨a, us, rfl, ha, rr⟩ := trkOf_run r rh (trkOf_lst xs h)
      unfold toD at e
      obtain ⟨ds, e1, rfl⟩ := Option.map_eq_some_iff.mp e
      obtain ⟨h1, h2⟩ := allD_run ih rr e1
      exact ⟨.lst (.inl (.inl ha)) h1, by simp only [PyData.depth]; omega⟩
    | ref i =>
      unfold toD at e
      split at e
      · rename_i xs e0
        obtain ⟨a, us, rfl, ha, rr⟩ := trkOf_run r rh (trkOf_ref e0)
        obtain ⟨ds, e1, rfl⟩ := Option.map_eq_some_iff.mp e
        obtain ⟨h1, h2⟩ := allD_run ih rr e1
        exact ⟨.lst (.inl (.inl ha)) h1, by simp only [PyData.depth]; omega⟩
      · cases e
    | _ => cases e
abbrev dat (h : VH) (x : PV) : Option PyData := toD h 12 x
section
variable {f : PV → Option PyData}
@[simp] theorem allD_nil : allD f [] = some [] := (rfl)
theorem allD_cons {x : PV} {xs : List PV} {d : PyData} {ds : List PyData} (a : f x = some d) (b : allD f xs = some ds) : allD f (x :: xs) = some (d :: ds) := by simp [allD, a, b]
theorem allD_map {α : Type} {p : α → PV} {q : α → PyData} : ∀ {xs : List α}, (∀ x ∈ xs, f (p x) = some (q x)) → allD f (xs.map p) = some (xs.map q)
  | [], _ => rfl
  | x :: xs, h => allD_cons (h x List.mem_cons_self) (allD_map fun y hy => h y (List.mem_cons_of_mem _ hy))
theorem allD_append {xs ys : List PV} {ds es : List PyData} (a : allD f xs = some ds) (b : allD f ys = some es) : allD f (xs ++ ys) = some (ds ++ es) := by
  induction xs generalizing ds with
  | nil => cases a; exact b
  | cons x xs ih =>
    unfold allD at a
    split at a
    · rename_i d ds' e1 e2
      cases a
      exact allD_cons e1 (ih e2)
    · cases a
end
section
variable {h : VH} {n : Nat}
@[simp] theorem toD_non : toD h n .non = some .none := by cases n <;> rfl
@[simp] theorem toD_bl (b : Bool) : toD h n (.bl b) = some (.bool b) := by cases n <;> rfl
@[simp] theorem toD_int (b : Int) : toD h n (.int b) = some (.int b) := by cases n <;> rfl
@[simp] theorem toD_str (b : Str) : toD h n (.str b) = some (.str b) := by cases n <;> rfl
@[simp] theorem toD_tup (xs : List PV) : toD h (n + 1) (.tup xs) = (allD (toD h n) xs).map .tuple := (rfl)
@[simp] theorem toD_lst (xs : List PV) : toD h (n + 1) (.lst xs) = (allD (toD h n) xs).map .list := (rfl)
theorem toD_ref {i : Nat} {xs : List PV} (e : h[i]? = some (.lst xs)) : toD h (n + 1) (.ref i) = (allD (toD h n) xs).map .list := by unfold toD; rw [e]
@[simp] theorem allD_ints (xs : List Int) : allD (toD h n) (xs.map PV.int) = some (xs.map PyData.int) := allD_map fun _ _ => toD_int _
@[simp] theorem allD_bls (xs : List Bool) : allD (toD h n) (xs.map PV.bl) = some (xs.map PyData.bool) := allD_map fun _ _ => toD_bl _
@[simp] theorem allD_strs (xs : List Str) : allD (toD h n) (xs.map PV.str) = some (xs.map PyData.str) := allD_map fun _ _ => toD_str _
end
/-- == of data -/
def eqD (neg : Bool) (x y : PV) (h : VH) : Res PV := match dat h x, dat h y with
  | some d, some e => if d.canLay0 = true ∧ e.canLay0 = true then .ok (.bl (if neg then !PyData.eqv d e else PyData.eqv d e)) h else .bad
  | _, _ => .bad
theorem eqD_ok {neg : Bool} {x y : PV} {h : VH} {d e : PyData} (a : dat h x = some d) (b : dat h y = some e) (ca : d.canLay0 = true) (cb : e.canLay0 = true) : eqD neg x y h = .ok (.bl (if neg then !PyData.eqv d e else PyData.eqv d e)) h := by
  unfold eqD
  rw [a, b]
  exact if_pos ⟨ca, cb⟩
def eqP : PV → PV → VH → Res PV
  | .int i, .int j, h => .ok (.bl (decide (i = j))) h
  | .str i, .str j, h => .ok (.bl (decide (i = j))) h
  | .bl i, .bl j, h => .ok (.bl (decide (i = j))) h
  | x, y, h => eqD false x y h
def neP : PV → PV → VH → Res PV
  | .int i, .int j, h => .ok (.bl (!decide (i = j))) h
  | .str i, .str j, h => .ok (.bl (!decide (i = j))) h
  | .bl i, .bl j, h => .ok (.bl (!decide (i = j))) h
  | x, y, h => eqD true x y h
@[simp] theorem eqP_int (i j : Int) (h : VH) : eqP (.int i) (.int j) h = .ok (.bl (decide (i = j))) h := (rfl)
@[simp] theorem eqP_str (i j : Str) (h : VH) : eqP (.str i) (.str j) h = .ok (.bl (decide (i = j))) h := (rfl)
@[simp] theorem eqP_bl (i j : Bool) (h : VH) : eqP (.bl i) (.bl j) h = .ok (.bl (decide (i = j))) h := (rfl)
@[simp] theorem neP_int (i j : Int) (h : VH) : neP (.int i) (.int j) h = .ok (.bl (!decide (i = j))) h := (rfl)
@[simp] theorem neP_str (i j : Str) (h : VH) : neP (.str i) (.str j) h = .ok (.bl (!decide (i = j))) h := (rfl)
@[simp] theorem neP_bl (i j : Bool) (h : VH) : neP (.bl i) (.bl j) h = .ok (.bl (!decide (i = j))) h := (rfl)
@[simp] theorem eqP_tup (i : List PV) (y : PV) (h : VH) : eqP (.tup i) y h = eqD false (.tup i) y h := by cases y <;> rfl
@[simp] theorem eqP_lst (i : List PV) (y : PV) (h : VH) : eqP (.lst i) y h = eqD false (.lst i) y h := by cases y <;> rfl
@[simp] theorem eqP_ref (i : Nat) (y : PV) (h : VH) : eqP (.ref i) y h = eqD false (.ref i) y h := by cases y <;> rfl
@[simp] theorem neP_tup (i : List PV) (y : PV) (h : VH) : neP (.tup i) y h = eqD true (.tup i) y h := by cases y <;> rfl
@[simp] theorem neP_lst (i : List PV) (y : PV) (h : VH) : neP (.lst i) y h = eqD true (.lst i) y h := by cases y <;> rfl
@[simp] theorem neP_ref (i : Nat) (y : PV) (h : VH) : neP (.ref i) y h = eqD true (.ref i) y h := by cases y <;> rfl
theorem shaped_of {d : PyData} (c : d.canLay0 = true) (z : d.depth ≤ 13) : SeqAt.shaped d = true := by
  unfold SeqAt.shaped
  rw [c, Bool.true_and]
  exact decide_eq_true (by omega)
theorem eqD_run {K : Kc} {g : Gh} {h : VH} {H : Hp} {neg : Bool} {x y : PV} {u v : V} {Q : VK} {E : XK} (rh : RelH K g h H) (rx : Rep K g h.length x u) (ry : Rep K g h.length y v) (p : Post K (Rep K) g h.length Q E (eqD neg x y h)) :
    ∃ d e, Dp K.K H u d ∧ Dp K.K H v e ∧ SeqAt.shaped d = true ∧ SeqAt.shaped e = true ∧ Q (.bl (if neg then !PyData.eqv d e else PyData.eqv d e)) H := by
  unfold eqD at p
  split at p
  · rename_i d e e1 e2
    split at p
    · rename_i z
      obtain ⟨a1, a2⟩ := toD_run rh 12 rx e1
      obtain ⟨b1, b2⟩ := toD_run rh 12 ry e2
      exact ⟨d, e, a1, b1, shaped_of z.1 a2, shaped_of z.2 b2, p.go rh repB⟩
    · exact p.elim
  · exact p.elim
def rEqAll (K : PySem.W.Frag) : R2 := fun x y H Q => rEq x y H Q ∨ rEqD K x y H Q
def rNeAll (K : PySem.W.Frag) : R2 := fun x y H Q => rNe x y H Q ∨ rNeD K x y H Q
theorem op_eqAll (hu : X.A.units + 64 < cLine) : OpR X (compareOp .Eq) (rEqAll X.K) := op_eq.or (op_eqD hu)
theorem op_neAll (hu : X.A.units + 64 < cLine) : OpR X (compareOp .NotEq) (rNeAll X.K) := op_ne.or (op_neD hu)
theorem eqS : OpS c X (rEqAll X.K) eqP := fun g h H x y u v Q E rx ry rh p => by
  unfold eqP at p
  split at p
  · simp only [Rep] at rx ry; subst rx ry
    exact .inl ⟨rfl, by rw [dec_int, Bool.beq_eq_decide_eq]; exact p.go rh repB⟩
  · simp only [Rep] at rx ry; subst rx ry
    exact .inl ⟨rfl, by rw [dec_str, Bool.beq_eq_decide_eq]; exact p.go rh repB⟩
  · simp only [Rep] at rx ry; subst rx ry
    exact .inl ⟨rfl, by rw [dec_bl, Bool.beq_eq_decide_eq]; exact p.go rh repB⟩
  · obtain ⟨d, e, h1, h2, h3, h4, q⟩ := eqD_run rh rx ry p
    exact .inr ⟨d, e, h1, h2, h3, h4, q⟩
theorem neS : OpS c X (rNeAll X.K) neP := fun g h H x y u v Q E rx ry rh p => by
  unfold neP at p
  split at p
  · simp only [Rep] at rx ry; subst rx ry
    exact .inl ⟨rfl, by rw [dec_int, Bool.beq_eq_decide_eq]; exact p.go rh repB⟩
  · simp only [Rep] at rx ry; subst rx ry
    exact .inl ⟨rfl, by rw [dec_str, Bool.beq_eq_decide_eq]; exact p.go rh repB⟩
  · simp only [Rep] at rx ry; subst rx ry
    exact .inl ⟨rfl, by rw [dec_bl, Bool.beq_eq_decide_eq]; exact p.go rh repB⟩
  · obtain ⟨d, e, h1, h2, h3, h4, q⟩ := eqD_run rh rx ry p
    exact .inr ⟨d, e, h1, h2, h3, h4, q⟩
/-- is None -/
def isN (neg : Bool) : PV → PV → VH → Res PV
  | x, .non, h => .ok (.bl (match x with | .non => !neg | _ => neg)) h
  | _, _, _ => .bad
@[simp] theorem isN_non (neg : Bool) (h : VH) : isN neg .non .non h = .ok (.bl (!neg)) h := (rfl)
theorem rep_non {K : Kc} {g : Gh} {n : Nat} {x : PV} {u : V} (r : Rep K g n x u) : decide (u = .non) = (match x with | .non => true | _ => false) := by
  cases x with
  | non => simp only [Rep] at r; subst r; rfl
  | bl b => simp only [Rep] at r; subst r; rfl
  | int b => simp only [Rep] at r; subst r; rfl
  | str b => simp only [Rep] at r; subst r; rfl
  | ty b => simp only [Rep] at r; subst r; rfl
  | cls b => simp only [Rep] at r; subst r; rfl
  | exn => simp only [Rep] at r; obtain ⟨a, _, _, _, rfl⟩ := r; rfl
  | tup xs => simp only [Rep] at r; obtain ⟨a, us, rfl, _⟩ := r; rfl
  | lst xs => simp only [Rep] at r; obtain ⟨a, us, rfl, _⟩ := r; rfl
  | scr xs => simp only [Rep] at r; obtain ⟨a, us, rfl, _⟩ := r; rfl
  | ins C fs => simp only [Rep] at r; obtain ⟨a, dx, us, rfl, _⟩ := r; rfl
  | ref i => simp only [Rep] at r; obtain ⟨_, rfl⟩ := r; rfl
theorem isS : OpS c X (fun x y H Q => y = .non ∧ Q (.bl (decide (x = .non))) H) (isN false) := fun g h H x y u v Q E rx ry rh p => by
  unfold isN at p
  split at p
  · simp only [Rep] at ry
    refine ⟨ry, ?_⟩
    rw [rep_non rx]
    exact p.go rh (by simp only [Rep]; cases x <;> rfl)
  · exact p.elim
theorem isnotS : OpS c X (fun x y H Q => y = .non ∧ Q (.bl (!decide (x = .non))) H) (isN true) := fun g h H x y u v Q E rx ry rh p => by
  unfold isN at p
  split at p
  · simp only [Rep] at ry
    refine ⟨ry, ?_⟩
    rw [rep_non rx]
    exact p.go rh (by simp only [Rep]; cases x <;> rfl)
  · exact p.elim
end
end Pm
namespace PySem
section
variable {prog : Program} {w : World} {A : Around} {E : Value → Shared → Prop} {s : Shared} {l : Addr} {xs : Array (Int × Tok)}
theorem iter_intTup {Q : Value → Shared → Prop} (hl : s.heap.IsTuple l (intItems xs))
    (h : ∀ s₂ : Shared, s₂ = { s with heap := s.heap.push { cls := .type "tuple_iterator", data := .fields #[.ref l, .int 0 0] } } →
      (s₂.heap.IsTupleIter s.heap.objs.size l 0 ∧ s₂.heap.IsTuple l (intItems xs)) → (∀ b ∈ [s.heap.objs.size, l], b < s₂.heap.objs.size) → l ≠ s.heap.objs.size → Q (.ref s.heap.objs.size) s₂) :
    wpAny (model prog w) A (pyIter (.ref l)) Q E s := by
  have hlt : l < s.heap.objs.size := by obtain ⟨_, e, _⟩ := hl; exact Heap.lt_size e
  refine wpAny_pyIter_tuple hl (h _ rfl ⟨⟨_, Heap.get?_push_size _ rfl, rfl, rfl⟩, hl.push _⟩ (fun b hb => ?_) (Nat.ne_of_lt hlt))
  show b < (s.heap.push _).objs.size
  rw [Heap.size_push]
  rcases List.mem_cons.mp hb with rfl | hb
  · exact Nat.lt_succ_self _
  · rcases List.mem_cons.mp hb with rfl | hb
    · exact Nat.lt_succ_of_lt hlt
    · cases hb
theorem old_keptT {h' : Heap} (hk : ∀ b o, b ∉ [s.heap.objs.size] → (s.heap.push { cls := .type "tuple_iterator", data := .fields #[.ref l, .int 0 0] }).get? b = some o → h'.get? b = some o) :
    ∀ b o, s.heap.get? b = some o → h'.get? b = some o := fun b o e => by
  refine hk b o (fun hm => ?_) (Heap.get?_push_of_some _ e)
  rcases List.mem_cons.mp hm with e1 | hm
  · exact absurd (e1 ▸ Heap.lt_size e) (Nat.lt_irrefl _)
  · cases hm
theorem sum_intTupG {Q : Value → Shared → Prop} (hh : A.handled = none) (hl : s.heap.IsTuple l (intItems xs))
    (h : ∀ h' tk t', (∀ b o, s.heap.get? b = some o → h'.get? b = some o) → Q (.int (preSum (numAt xs) xs.size) t') { s with heap := h', toks := tk }) :
    wpAny (model prog w) A (call (.builtin "sum") [.ref l]) Q E s := by
  refine call_sum_walkG (iter_intTup hl fun s₂ e st hfp hlI => ?_)
  subst e
  refine ⟨_, _, _, _, _, _, numAt xs, rfl, Walks.tuple (A := A.in1) hh _ l hlI (intItems xs), st, hfp, (fun _ _ => intItems_at), fun h' tk t' hk => ?_⟩
  have := h h' tk t' (old_keptT hk)
  simpa [intItems] using this
theorem max_intTup {Q : Value → Shared → Prop} (hh : A.handled = none) (hl : s.heap.IsTuple l (intItems xs)) (hne : 0 < xs.size)
    (h : ∀ v h' tk, (intItems xs)[argBest (fun i j => decide (numAt xs i > numAt xs j)) (xs.size - 1)]? = some v → (∀ b o, s.heap.get? b = some o → h'.get? b = some o) → Q v { s with heap := h', toks := tk }) :
    wpAny (model prog w) A (call (.builtin "max") [.ref l]) Q E s := by
  refine call_max_walk (iter_intTup hl fun s₂ e st hfp hlI => ?_)
  subst e
  refine ⟨_, _, _, _, _, _, _, rfl, Walks.tuple (A := A.in1) hh _ l hlI (intItems xs), st, hfp, by simpa [intItems] using hne, CmpOf.ints_gt (numAt xs) (fun _ _ => intItems_at), fun v h' tk hP hk => ?_⟩
  exact h v h' tk (by simpa [intItems] using hP) (old_keptT hk)
theorem min_intTup {Q : Value → Shared → Prop} (hh : A.handled = none) (hl : s.heap.IsTuple l (intItems xs)) (hne : 0 < xs.size)
    (h : ∀ v h' tk, (intItems xs)[argBest (fun i j => decide (numAt xs i < numAt xs j)) (xs.size - 1)]? = some v → (∀ b o, s.heap.get? b = some o → h'.get? b = some o) → Q v { s with heap := h', toks := tk }) :
    wpAny (model prog w) A (call (.builtin "min") [.ref l]) Q E s := by
  refine call_min_walk (iter_intTup hl fun s₂ e st hfp hlI => ?_)
  subst e
  refine ⟨_, _, _, _, _, _, _, rfl, Walks.tuple (A := A.in1) hh _ l hlI (intItems xs), st, hfp, by simpa [intItems] using hne, CmpOf.ints_lt (numAt xs) (fun _ _ => intItems_at), fun v h' tk hP hk => ?_⟩
  exact h v h' tk (by simpa [intItems] using hP) (old_keptT hk)
end
end PySem
namespace Pm
open PySem PySem.Spec L2 PyProof.Rows
def rSumT (K : PySem.W.Frag) : List V → Hp → VK → Prop := fun vs H Q => ∃ (a : Addr) (ns : List Int), vs = [V.ref a] ∧ SqT K H a (ns.map V.int) ∧ Q (.int ns.sum) H
theorem cr_sumT {X : Cx} (hc : X.calm = true) : CallR X (.builtin "sum") (rSumT X.K) := by
  intro pins s σ H vs us Q I r h
  obtain ⟨a, ns, rfl, hs, q⟩ := h
  obtain ⟨its, rv, hl, _⟩ := I.tuple hs
  rw [Vals.ref1 r]
  obtain ⟨xs, e⟩ := rv.ints.allInts.items
  have hn : numsOf (intItems xs).toList = ns := by rw [← e]; exact rv.ints.numsOf
  rw [nums_intItems] at hn
  rw [e] at hl
  refine sum_intTupG (I.ok.hd hc) hl fun h' tk t' hk => ?_
  rw [preSum_eq, List.take_of_length_le (by simp), hn]
  exact ⟨.int _, H, I.kept hk, ⟨_, rfl⟩, q⟩
def rMaxT (K : PySem.W.Frag) : List V → Hp → VK → Prop := fun vs H Q => ∃ (a : Addr) (ns : List Int), vs = [V.ref a] ∧ SqT K H a (ns.map V.int) ∧ 0 < ns.length ∧ ∀ m, m ∈ ns → (∀ y, y ∈ ns → y ≤ m) → Q (.int m) H
theorem cr_maxT {X : Cx} (hc : X.calm = true) : CallR X (.builtin "max") (rMaxT X.K) := by
  intro pins s σ H vs us Q I r h
  obtain ⟨a, ns, rfl, hs, hne, q⟩ := h
  obtain ⟨its, rv, hl, _⟩ := I.tuple hs
  rw [Vals.ref1 r]
  obtain ⟨xs, e⟩ := rv.ints.allInts.items
  have hn : numsOf (intItems xs).toList = ns := by rw [← e]; exact rv.ints.numsOf
  rw [nums_intItems] at hn
  subst hn
  rw [e] at hl
  have hsz : 0 < xs.size := by simpa using hne
  refine max_intTup (I.ok.hd hc) hl hsz fun v h' tk hv hk => ?_
  obtain ⟨t, rfl⟩ := intItems_at hv
  obtain ⟨h1, h2⟩ := argBest_gt (numAt xs) (xs.size - 1)
  refine ⟨.int _, H, I.kept hk, ⟨_, rfl⟩, q _ ?_ fun a ha => ?_⟩
  · rw [numAt_eq]; exact PySem.getD_mem (by rw [List.length_map, Array.length_toList]; omega)
  · obtain ⟨j, hj, rfl⟩ := mem_getD ha
    rw [List.length_map, Array.length_toList] at hj
    rw [← numAt_eq]; exact h2 j (by omega)
def rMinT (K : PySem.W.Frag) : List V → Hp → VK → Prop := fun vs H Q => ∃ (a : Addr) (ns : List Int), vs = [V.ref a] ∧ SqT K H a (ns.map V.int) ∧ 0 < ns.length ∧ ∀ m, m ∈ ns → (∀ y, y ∈ ns → m ≤ y) → Q (.int m) H
theorem cr_minT {X : Cx} (hc : X.calm = true) : CallR X (.builtin "min") (rMinT X.K) := by
  intro pins s σ H vs us Q I r h
  obtain ⟨a, ns, rfl, hs, hne, q⟩ := h
  obtain ⟨its, rv, hl, _⟩ := I.tuple hs
  rw [Vals.ref1 r]
  obtain ⟨xs, e⟩ := rv.ints.allInts.items
  have hn : numsOf (intItems xs).toList = ns := by rw [← e]; exact rv.ints.numsOf
  rw [nums_intItems] at hn
  subst hn
  rw [e] at hl
  have hsz : 0 < xs.size := by simpa using hne
  refine min_intTup (I.ok.hd hc) hl hsz fun v h' tk hv hk => ?_
  obtain ⟨t, rfl⟩ := intItems_at hv
  obtain ⟨h1, h2⟩ := argBest_lt (numAt xs) (xs.size - 1)
  refine ⟨.int _, H, I.kept hk, ⟨_, rfl⟩, q _ ?_ fun a ha => ?_⟩
  · rw [numAt_eq]; exact PySem.getD_mem (by rw [List.length_map, Array.length_toList]; omega)
  · obtain ⟨j, hj, rfl⟩ := mem_getD ha
    rw [List.length_map, Array.length_toList] at hj
    rw [← numAt_eq]; exact h2 j (by omega)
end Pm
namespace Pm
open PySem PySem.Spec L2 PyProof.Rows
section
variable {c : Ck} {X : Cx} {W : WX} {pos : Pos} {e : Expr} {es : List Expr} {m : EM} {ms : AM}

/-! ### a call of one value, of two -/
def one (f : PV → VH → Res PV) : List PV → VH → Res PV
  | [x], h => f x h
  | _, _ => .bad
def two (f : PV → PV → VH → Res PV) : List PV → VH → Res PV
  | [x, y], h => f x y h
  | _, _ => .bad
@[simp] theorem one_eq (f : PV → VH → Res PV) (x : PV) (h : VH) : one f [x] h = f x h := (rfl)
@[simp] theorem two_eq (f : PV → PV → VH → Res PV) (x y : PV) (h : VH) : two f [x, y] h = f x y h := (rfl)
theorem one_run {K : Kc} {g : Gh} {h : VH} {xs : List PV} {us : List V} {Q : VK} {E : XK} {f : PV → VH → Res PV} (r : Reps K g h.length xs us) (p : Post K (Rep K) g h.length Q E (one f xs h)) :
    ∃ x u, xs = [x] ∧ us = [u] ∧ Rep K g h.length x u ∧ Post K (Rep K) g h.length Q E (f x h) := by
  unfold one at p
  split at p
  · simp only [Reps] at r
    obtain ⟨u, us', rfl, a, b⟩ := r
    subst b
    exact ⟨_, u, rfl, rfl, a, p⟩
  · exact p.elim
theorem two_args {K : Kc} {g : Gh} {h : VH} {xs : List PV} {us : List V} {Q : VK} {E : XK} {f : PV → PV → VH → Res PV} (r : Reps K g h.length xs us) (p : Post K (Rep K) g h.length Q E (two f xs h)) :
    ∃ x y u v, xs = [x, y] ∧ us = [u, v] ∧ Rep K g h.length x u ∧ Rep K g h.length y v ∧ Post K (Rep K) g h.length Q E (f x y h) := by
  unfold two at p
  split at p
  · simp only [Reps] at r
    obtain ⟨u, us', rfl, a, v, us2, rfl, b, d⟩ := r
    subst d
    exact ⟨_, _, u, v, rfl, rfl, a, b, p⟩
  · exact p.elim

/-! ### len, abs, int -/
def lenP : PV → VH → Res PV
  | .str s, h => if s.length ≤ 16777216 then .ok (.int s.length) h else .bad
  | .tup xs, h => .ok (.int xs.length) h
  | .ref i, h => match h[i]? with
    | some (.lst xs) => .ok (.int xs.length) h
    | some (.dic _ kvs) => .ok (.int kvs.length) h
    | _ => .bad
  | x, h => match lstOf x h with
    | some xs => .ok (.int xs.length) h
    | none => .bad
@[simp] theorem lenP_tup (xs : List PV) (h : VH) : lenP (.tup xs) h = .ok (.int xs.length) h := (rfl)
@[simp] theorem lenP_lst (xs : List PV) (h : VH) : lenP (.lst xs) h = .ok (.int xs.length) h := (rfl)
@[simp] theorem lenP_scr (xs : List PV) (h : VH) : lenP (.scr xs) h = .ok (.int xs.length) h := (rfl)
theorem lenP_str {s : Str} {h : VH} (z : s.length ≤ 16777216) : lenP (.str s) h = .ok (.int s.length) h := if_pos z
theorem lenP_ref {i : Nat} {xs : List PV} {h : VH} (e : h[i]? = some (.lst xs)) : lenP (.ref i) h = .ok (.int xs.length) h := by simp [lenP, e]
theorem lenP_dic {i : Nat} {t : Bool} {xs : List (PV × PV)} {h : VH} (e : h[i]? = some (.dic t xs)) : lenP (.ref i) h = .ok (.int xs.length) h := by simp [lenP, e]
theorem RepD.length {κ : Type} {K : Kc} {g : Gh} {n : Nat} {key : PV → Option κ} : ∀ {kvs : List (PV × PV)} {us : List (κ × V)}, RepD K g n key kvs us → us.length = kvs.length
  | [], _, h => by simp only [RepD] at h; subst h; rfl
  | (k, x) :: xs, _, h => by
    simp only [RepD] at h
    obtain ⟨k', u, r, rfl, _, _, b⟩ := h
    rw [List.length_cons, List.length_cons, RepD.length b]
def rLenAll (K : PySem.W.Frag) : List V → Hp → VK → Prop := fun xs H Q => (∃ p ys, xs = [.ref p] ∧ (SqL K H p ys ∨ SqT K H p ys) ∧ Q (.int ys.length) H) ∨ (∃ z, xs = [.str z] ∧ z.length ≤ sizeLine ∧ Q (.int z.length) H) ∨
  (∃ a kvs, xs = [V.ref a] ∧ H a = some (.dK kvs) ∧ Q (.int kvs.length) H) ∨ rLenT xs H Q
theorem call_lenAll : CallR X (.builtin "len") (rLenAll X.K) := call_len_seq.or (call_len_str.or (call_lenD.or call_len_dT))
theorem lenS : CallS c X (rLenAll X.K) (one lenP) := fun g h H xs us Q E r rh p => by
  obtain ⟨x, u, rfl, rfl, rx, p⟩ := one_run r p
  have seq : ∀ {xs : List PV}, lstOf x h = some xs → Post (kx c X) (Rep (kx c X)) g h.length Q E (.ok (.int xs.length) h) → rLenAll X.K [u] H Q := fun {xs} e q => by
    obtain ⟨a, us, rfl, s, r1⟩ := lstOf_run rx rh e
    exact .inl ⟨a, us, rfl, .inl s, by rw [r1.length]; exact q.go rh repI⟩
  unfold lenP at p
  split at p
  · split at p
    · simp only [Rep] at rx
      exact .inr (.inl ⟨_, by rw [rx], by rw [sizeLine_eq]; assumption, p.go rh repI⟩)
    · exact p.elim
  · obtain ⟨a, us, rfl, s, r1⟩ := tup_run rx rh
    exact .inl ⟨a, us, rfl, .inr (.inl (.inl s)), by rw [r1.length]; exact p.go rh repI⟩
  · split at p
    · rename_i e; exact seq (lstOf_ref e) p
    · rename_i t kvs e
      simp only [Rep] at rx
      obtain ⟨o, ho, ro⟩ := rh.cell _ _ e (by intro z; cases z)
      cases t with
      | false =>
        obtain ⟨ws, rfl, rd⟩ := ro
        exact .inr (.inr (.inl ⟨_, ws, by rw [rx.2], ho, by rw [rd.length]; exact p.go rh repI⟩))
      | true =>
        obtain ⟨ws, rfl, rd⟩ := ro
        exact .inr (.inr (.inr ⟨_, ws, by rw [rx.2], ho, by rw [rd.length]; exact p.go rh repI⟩))
    · exact p.elim
  · split at p
    · rename_i e; exact seq e p
    · exact p.elim
def absP : PV → VH → Res PV
  | .int i, h => .ok (.int (if i < 0 then -i else i)) h
  | _, _ => .bad
@[simp] theorem absP_int (i : Int) (h : VH) : absP (.int i) h = .ok (.int (if i < 0 then -i else i)) h := (rfl)
theorem absS : CallS c X (fun xs H Q => ∃ i, xs = [.int i] ∧ Q (.int (if i < 0 then -i else i)) H) (one absP) := fun g h H xs us Q E r rh p => by
  obtain ⟨x, u, rfl, rfl, rx, p⟩ := one_run r p
  cases x with
  | int i => simp only [Rep] at rx; exact ⟨i, by rw [rx], p.go rh repI⟩
  | _ => exact p.elim
def intP : PV → VH → Res PV
  | .int i, h => .ok (.int i) h
  | .bl b, h => .ok (.int (if b = true then 1 else 0)) h
  | .str s, h => match PySem.intText? s with
    | some n => if s.length ≤ 640 then .ok (.int n) h else .bad
    | none => .bad
  | _, _ => .bad
@[simp] theorem intP_int (i : Int) (h : VH) : intP (.int i) h = .ok (.int i) h := (rfl)
@[simp] theorem intP_bl (b : Bool) (h : VH) : intP (.bl b) h = .ok (.int (if b = true then 1 else 0)) h := (rfl)
def rIntAll : List V → Hp → VK → Prop := fun xs H Q => ((∃ i, xs = [.int i] ∧ Q (.int i) H) ∨ ∃ k, xs = [.bl k] ∧ Q (.int (if k then 1 else 0)) H) ∨ ∃ a n, xs = [.str a] ∧ PySem.intText? a = some n ∧ a.length ≤ 640 ∧ Q (.int n) H
theorem call_intAll : CallR X (.type "int") rIntAll := call_int1.or call_int_str
theorem intS : CallS c X rIntAll (one intP) := fun g h H xs us Q E r rh p => by
  obtain ⟨x, u, rfl, rfl, rx, p⟩ := one_run r p
  cases x with
  | int i => simp only [Rep] at rx; exact .inl (.inl ⟨i, by rw [rx], p.go rh repI⟩)
  | bl i => simp only [Rep] at rx; exact .inl (.inr ⟨i, by rw [rx], p.go rh repI⟩)
  | str s =>
    simp only [Rep] at rx
    unfold intP at p
    dsimp only at p
    split at p
    · rename_i n e
      split at p
      · exact .inr ⟨s, n, by rw [rx], e, by assumption, p.go rh repI⟩
      · exact p.elim
    · exact p.elim
  | _ => exact p.elim
def strP : PV → VH → Res PV
  | .int i, h => if i.natAbs.log2 < 1920 then .ok (.str (toString i)) h else .bad
  | .str s, h => .ok (.str s) h
  | _, _ => .bad
@[simp] theorem strP_str (s : Str) (h : VH) : strP (.str s) h = .ok (.str s) h := (rfl)
theorem strP_int {i : Int} {h : VH} (z : i.natAbs.log2 < 1920) : strP (.int i) h = .ok (.str (toString i)) h := if_pos z
def rStrAll : List V → Hp → VK → Prop := fun xs H Q => (∃ i, xs = [.int i] ∧ i.natAbs.log2 < 1920 ∧ Q (.str (toString i)) H) ∨ ∃ a, xs = [.str a] ∧ Q (.str a) H
theorem call_strAll : CallR X (.type "str") rStrAll := call_str_int.or SkE.call_str_str
theorem strS : CallS c X rStrAll (one strP) := fun g h H xs us Q E r rh p => by
  obtain ⟨x, u, rfl, rfl, rx, p⟩ := one_run r p
  cases x with
  | int i =>
    simp only [Rep] at rx
    unfold strP at p
    dsimp only at p
    split at p
    · exact .inl ⟨i, by rw [rx], by assumption, p.go rh repS⟩
    · exact p.elim
  | str i => simp only [Rep] at rx; exact .inr ⟨i, by rw [rx], p.go rh repS⟩
  | _ => exact p.elim

/-! ### list, tuple -/
def tupleP : PV → VH → Res PV
  | .tup xs, h => .ok (.tup xs) h
  | x, h => match lstOf x h with
    | some xs => .ok (.tup xs) h
    | none => .bad
@[simp] theorem tupleP_tup (xs : List PV) (h : VH) : tupleP (.tup xs) h = .ok (.tup xs) h := (rfl)
@[simp] theorem tupleP_lst (xs : List PV) (h : VH) : tupleP (.lst xs) h = .ok (.tup xs) h := (rfl)
@[simp] theorem tupleP_scr (xs : List PV) (h : VH) : tupleP (.scr xs) h = .ok (.tup xs) h := (rfl)
theorem tupleP_ref {i : Nat} {xs : List PV} {h : VH} (e : h[i]? = some (.lst xs)) : tupleP (.ref i) h = .ok (.tup xs) h := by simp [tupleP, lstOf, e]
theorem tupleS : CallS c X (fun xs H Q => ∃ p ys, xs = [.ref p] ∧ ((SqL X.K H p ys ∧ ∀ l, H l = none → Q (.ref l) (upd H l (.tup ys))) ∨ (SqT X.K H p ys ∧ Q (.ref p) H))) (one tupleP) := fun g h H xs us Q E r rh p => by
  obtain ⟨x, u, rfl, rfl, rx, p⟩ := one_run r p
  unfold tupleP at p
  split at p
  · obtain ⟨a, us, rfl, s, r1⟩ := tup_run rx rh
    exact ⟨a, us, rfl, .inr ⟨.inl (.inl s), p.go rh rx⟩⟩
  · split at p
    · rename_i e
      obtain ⟨a, us, rfl, s, r1⟩ := lstOf_run rx rh e
      exact ⟨a, us, rfl, .inl ⟨s, tup_new rh r1 p⟩⟩
    · exact p.elim
def listP (cell : Bool) (x : PV) (h : VH) : Res PV := match seqOf x h with
    | some xs => mkL cell xs h
    | none => .bad
@[simp] theorem listP_tup (cell : Bool) (xs : List PV) (h : VH) : listP cell (.tup xs) h = mkL cell xs h := (rfl)
@[simp] theorem listP_lst (cell : Bool) (xs : List PV) (h : VH) : listP cell (.lst xs) h = mkL cell xs h := (rfl)
@[simp] theorem listP_scr (cell : Bool) (xs : List PV) (h : VH) : listP cell (.scr xs) h = mkL cell xs h := (rfl)
theorem listP_ref {cell : Bool} {i : Nat} {xs : List PV} {h : VH} (e : h[i]? = some (.lst xs)) : listP cell (.ref i) h = mkL cell xs h := by simp [listP, seqOf_ref e]
theorem listS (cell : Bool) : CallS c X (fun xs H Q => ∃ p ys, xs = [.ref p] ∧ (SqL X.K H p ys ∨ SqT X.K H p ys) ∧ ∀ l, H l = none → Q (.ref l) (upd H l (.lst ys))) (one (listP cell)) := fun g h H xs us Q E r rh p => by
  obtain ⟨x, u, rfl, rfl, rx, p⟩ := one_run r p
  unfold listP at p
  split at p
  · rename_i e
    obtain ⟨a, us, rfl, s, r1⟩ := seqOf_run rx rh e
    exact ⟨a, us, rfl, s, mkL_new rh r1 p⟩
  · exact p.elim

/-! ### sum, max, min, any, all, sorted -/
def intsOf : List PV → Option (List Int)
  | [] => some []
  | .int i :: r => (intsOf r).map (i :: ·)
  | _ :: _ => none
@[simp] theorem intsOf_map : ∀ ns : List Int, intsOf (ns.map PV.int) = some ns
  | [] => rfl
  | i :: ns => by show (intsOf (ns.map PV.int)).map (i :: ·) = _; rw [intsOf_map ns]; rfl
theorem intsOf_eq : ∀ {xs : List PV} {ns : List Int}, intsOf xs = some ns → xs = ns.map PV.int
  | [], _, e => by cases e; rfl
  | x :: r, ns, e => by
    cases x with
    | int i =>
      obtain ⟨ms, e1, rfl⟩ := Option.map_eq_some_iff.mp (show (intsOf r).map (i :: ·) = some ns from e)
      rw [intsOf_eq e1]; rfl
    | _ => cases e
def blsOf : List PV → Option (List Bool)
  | [] => some []
  | .bl i :: r => (blsOf r).map (i :: ·)
  | _ :: _ => none
@[simp] theorem blsOf_map : ∀ ns : List Bool, blsOf (ns.map PV.bl) = some ns
  | [] => rfl
  | i :: ns => by show (blsOf (ns.map PV.bl)).map (i :: ·) = _; rw [blsOf_map ns]; rfl
theorem blsOf_eq : ∀ {xs : List PV} {ns : List Bool}, blsOf xs = some ns → xs = ns.map PV.bl
  | [], _, e => by cases e; rfl
  | x :: r, ns, e => by
    cases x with
    | bl i =>
      obtain ⟨ms, e1, rfl⟩ := Option.map_eq_some_iff.mp (show (blsOf r).map (i :: ·) = some ns from e)
      rw [blsOf_eq e1]; rfl
    | _ => cases e
def intsIn (x : PV) (h : VH) : Option (List Int) := (lstOf x h).bind intsOf
def blsIn (x : PV) (h : VH) : Option (List Bool) := (lstOf x h).bind blsOf
@[simp] theorem intsIn_lst (xs : List PV) (h : VH) : intsIn (.lst xs) h = intsOf xs := (rfl)
@[simp] theorem blsIn_lst (xs : List PV) (h : VH) : blsIn (.lst xs) h = blsOf xs := (rfl)
theorem intsIn_ref {i : Nat} {xs : List PV} {h : VH} (e : h[i]? = some (.lst xs)) : intsIn (.ref i) h = intsOf xs := by simp [intsIn, lstOf_ref e]
theorem intsIn_run {K : Kc} {g : Gh} {h : VH} {H : Hp} {x : PV} {u : V} {ns : List Int} (rx : Rep K g h.length x u) (rh : RelH K g h H) (e : intsIn x h = some ns) : ∃ a, u = .ref a ∧ SqL K.K H a (ns.map V.int) := by
  obtain ⟨xs, e1, e2⟩ := Option.bind_eq_some_iff.mp e
  obtain ⟨a, us, rfl, s, r⟩ := lstOf_run rx rh e1
  rw [intsOf_eq e2] at r
  rw [r.ints_eq] at s
  exact ⟨a, rfl, s⟩
theorem blsIn_run {K : Kc} {g : Gh} {h : VH} {H : Hp} {x : PV} {u : V} {ns : List Bool} (rx : Rep K g h.length x u) (rh : RelH K g h H) (e : blsIn x h = some ns) : ∃ a, u = .ref a ∧ SqL K.K H a (ns.map V.bl) := by
  obtain ⟨xs, e1, e2⟩ := Option.bind_eq_some_iff.mp e
  obtain ⟨a, us, rfl, s, r⟩ := lstOf_run rx rh e1
  rw [blsOf_eq e2] at r
  rw [r.bls_eq] at s
  exact ⟨a, rfl, s⟩
def sumP (x : PV) (h : VH) : Res PV := match (seqOf x h).bind intsOf with
  | some ns => .ok (.int ns.sum) h
  | none => .bad
theorem sumP_ok {x : PV} {h : VH} {ns : List Int} (e : (seqOf x h).bind intsOf = some ns) : sumP x h = .ok (.int ns.sum) h := by simp [sumP, e]
@[simp] theorem sumP_ints (ns : List Int) (h : VH) : sumP (.lst (ns.map PV.int)) h = .ok (.int ns.sum) h := sumP_ok (by simp)
@[simp] theorem sumP_tints (ns : List Int) (h : VH) : sumP (.tup (ns.map PV.int)) h = .ok (.int ns.sum) h := sumP_ok (by simp)
def rSumA (K : PySem.W.Frag) : List V → Hp → VK → Prop := fun vs H Q => rSum K vs H Q ∨ rSumT K vs H Q
theorem cr_sumA (hc : X.calm = true) : CallR X (.builtin "sum") (rSumA X.K) := (cr_sum hc).or (cr_sumT hc)
theorem sumS : CallS c X (rSumA X.K) (one sumP) := fun g h H xs us Q E r rh p => by
  obtain ⟨x, u, rfl, rfl, rx, p⟩ := one_run r p
  unfold sumP at p
  split at p
  · rename_i ns e
    obtain ⟨ys, e1, e2⟩ := Option.bind_eq_some_iff.mp e
    obtain ⟨a, us, rfl, s, r⟩ := seqOf_run rx rh e1
    rw [intsOf_eq e2] at r
    rw [r.ints_eq] at s
    rcases s with s | s
    · exact .inl ⟨a, ns, rfl, s, p.go rh repI⟩
    · exact .inr ⟨a, ns, rfl, s, p.go rh repI⟩
  · exact p.elim
def maxL : List Int → Int
  | [] => 0
  | x :: r => r.foldl max x
def minL : List Int → Int
  | [] => 0
  | x :: r => r.foldl min x
theorem foldl_max_ge : ∀ (r : List Int) (x : Int), x ≤ r.foldl max x ∧ (∀ y ∈ r, y ≤ r.foldl max x) ∧ (r.foldl max x = x ∨ r.foldl max x ∈ r)
  | [], x => ⟨Int.le_refl _, (fun _ z => by cases z), .inl rfl⟩
  | y :: r, x => by
    obtain ⟨h1, h2, h3⟩ := foldl_max_ge r (max x y)
    refine ⟨by simp only [List.foldl_cons]; omega, fun z hz => ?_, ?_⟩
    · simp only [List.foldl_cons]
      rcases List.mem_cons.mp hz with rfl | hz
      · omega
      · exact h2 z hz
    · simp only [List.foldl_cons]
      rcases h3 with h3 | h3
      · rw [h3]
        rcases Int.le_total x y with q | q
        · exact .inr (by rw [Int.max_eq_right q]; exact List.mem_cons_self)
        · exact .inl (Int.max_eq_left q)
      · exact .inr (List.mem_cons_of_mem _ h3)
theorem foldl_min_le : ∀ (r : List Int) (x : Int), r.foldl min x ≤ x ∧ (∀ y ∈ r, r.foldl min x ≤ y) ∧ (r.foldl min x = x ∨ r.foldl min x ∈ r)
  | [], x => ⟨Int.le_refl _, (fun _ z => by cases z), .inl rfl⟩
  | y :: r, x => by
    obtain ⟨h1, h2, h3⟩ := foldl_min_le r (min x y)
    refine ⟨by simp only [List.foldl_cons]; omega, fun z hz => ?_, ?_⟩
    · simp only [List.foldl_cons]
      rcases List.mem_cons.mp hz with rfl | hz
      · omega
      · exact h2 z hz
    · simp only [List.foldl_cons]
      rcases h3 with h3 | h3
      · rw [h3]
        rcases Int.le_total x y with q | q
        · exact .inl (Int.min_eq_left q)
        · exact .inr (by rw [Int.min_eq_right q]; exact List.mem_cons_self)
      · exact .inr (List.mem_cons_of_mem _ h3)
theorem maxL_spec {ns : List Int} (h : ns ≠ []) : maxL ns ∈ ns ∧ ∀ y ∈ ns, y ≤ maxL ns := by
  cases ns with
  | nil => exact absurd rfl h
  | cons x r =>
    obtain ⟨h1, h2, h3⟩ := foldl_max_ge r x
    refine ⟨?_, fun y hy => ?_⟩
    · rcases h3 with h3 | h3
      · show r.foldl max x ∈ x :: r
        rw [h3]; exact List.mem_cons_self
      · exact List.mem_cons_of_mem _ h3
    · rcases List.mem_cons.mp hy with rfl | hy
      · exact h1
      · exact h2 y hy
theorem minL_spec {ns : List Int} (h : ns ≠ []) : minL ns ∈ ns ∧ ∀ y ∈ ns, minL ns ≤ y := by
  cases ns with
  | nil => exact absurd rfl h
  | cons x r =>
    obtain ⟨h1, h2, h3⟩ := foldl_min_le r x
    refine ⟨?_, fun y hy => ?_⟩
    · rcases h3 with h3 | h3
      · show r.foldl min x ∈ x :: r
        rw [h3]; exact List.mem_cons_self
      · exact List.mem_cons_of_mem _ h3
    · rcases List.mem_cons.mp hy with rfl | hy
      · exact h1
      · exact h2 y hy
def maxP : List PV → VH → Res PV
  | [.int i, .int j], h => .ok (.int (if j > i then j else i)) h
  | [x], h => match (seqOf x h).bind intsOf with
    | some (n :: ns) => .ok (.int (maxL (n :: ns))) h
    | _ => .bad
  | _, _ => .bad
def minP : List PV → VH → Res PV
  | [.int i, .int j], h => .ok (.int (if j < i then j else i)) h
  | [x], h => match (seqOf x h).bind intsOf with
    | some (n :: ns) => .ok (.int (minL (n :: ns))) h
    | _ => .bad
  | _, _ => .bad
@[simp] theorem maxP_two (i j : Int) (h : VH) : maxP [.int i, .int j] h = .ok (.int (if j > i then j else i)) h := (rfl)
@[simp] theorem minP_two (i j : Int) (h : VH) : minP [.int i, .int j] h = .ok (.int (if j < i then j else i)) h := (rfl)
theorem maxP_ok {x : PV} {h : VH} {ns : List Int} (e : (seqOf x h).bind intsOf = some ns) (z : ns ≠ []) : maxP [x] h = .ok (.int (maxL ns)) h := by
  cases ns with
  | nil => exact absurd rfl z
  | cons n ns => simp [maxP, e]
theorem minP_ok {x : PV} {h : VH} {ns : List Int} (e : (seqOf x h).bind intsOf = some ns) (z : ns ≠ []) : minP [x] h = .ok (.int (minL ns)) h := by
  cases ns with
  | nil => exact absurd rfl z
  | cons n ns => simp [minP, e]
def rMaxAll (K : PySem.W.Frag) : List V → Hp → VK → Prop := fun xs H Q => (∃ i j, xs = [.int i, .int j] ∧ Q (.int (if j > i then j else i)) H) ∨ rMax K xs H Q ∨ rMaxT K xs H Q
def rMinAll (K : PySem.W.Frag) : List V → Hp → VK → Prop := fun xs H Q => (∃ i j, xs = [.int i, .int j] ∧ Q (.int (if j < i then j else i)) H) ∨ rMin K xs H Q ∨ rMinT K xs H Q
theorem call_maxAll (hc : X.calm = true) : CallR X (.builtin "max") (rMaxAll X.K) := (call_max2 hc).or ((cr_max hc).or (cr_maxT hc))
theorem call_minAll (hc : X.calm = true) : CallR X (.builtin "min") (rMinAll X.K) := (call_min2 hc).or ((cr_min hc).or (cr_minT hc))
theorem Reps.one {K : Kc} {g : Gh} {n : Nat} {x : PV} {us : List V} (r : Reps K g n [x] us) : ∃ u, us = [u] ∧ Rep K g n x u := by
  simp only [Reps] at r
  obtain ⟨u, us', rfl, a, b⟩ := r
  subst b
  exact ⟨u, rfl, a⟩
theorem Reps.two {K : Kc} {g : Gh} {n : Nat} {x y : PV} {us : List V} (r : Reps K g n [x, y] us) : ∃ u v, us = [u, v] ∧ Rep K g n x u ∧ Rep K g n y v := by
  simp only [Reps] at r
  obtain ⟨u, us', rfl, a, v, us2, rfl, b, d⟩ := r
  subst d
  exact ⟨u, v, rfl, a, b⟩
theorem maxS : CallS c X (rMaxAll X.K) maxP := fun g h H xs us Q E r rh p => by
  unfold maxP at p
  split at p
  · obtain ⟨u, v, rfl, a, b⟩ := r.two
    simp only [Rep] at a b
    exact .inl ⟨_, _, by rw [a, b], p.go rh repI⟩
  · obtain ⟨u, rfl, rx⟩ := r.one
    split at p
    · rename_i n ns e
      obtain ⟨ys, e1, e2⟩ := Option.bind_eq_some_iff.mp e
      obtain ⟨a, us, rfl, s, r⟩ := seqOf_run rx rh e1
      rw [intsOf_eq e2] at r
      rw [r.ints_eq] at s
      have fin : ∀ m, m ∈ n :: ns → (∀ y, y ∈ n :: ns → y ≤ m) → Q (.int m) H := fun m hm hall => by
        obtain ⟨q1, q2⟩ := maxL_spec (ns := n :: ns) (by simp)
        have : m = maxL (n :: ns) := by have := q2 m hm; have := hall _ q1; omega
        rw [this]; exact p.go rh repI
      rcases s with s | s
      · exact .inr (.inl ⟨a, _, rfl, s, by simp, fin⟩)
      · exact .inr (.inr ⟨a, _, rfl, s, by simp, fin⟩)
    · exact p.elim
  · exact p.elim
theorem minS : CallS c X (rMinAll X.K) minP := fun g h H xs us Q E r rh p => by
  unfold minP at p
  split at p
  · obtain ⟨u, v, rfl, a, b⟩ := r.two
    simp only [Rep] at a b
    exact .inl ⟨_, _, by rw [a, b], p.go rh repI⟩
  · obtain ⟨u, rfl, rx⟩ := r.one
    split at p
    · rename_i n ns e
      obtain ⟨ys, e1, e2⟩ := Option.bind_eq_some_iff.mp e
      obtain ⟨a, us, rfl, s, r⟩ := seqOf_run rx rh e1
      rw [intsOf_eq e2] at r
      rw [r.ints_eq] at s
      have fin : ∀ m, m ∈ n :: ns → (∀ y, y ∈ n :: ns → m ≤ y) → Q (.int m) H := fun m hm hall => by
        obtain ⟨q1, q2⟩ := minL_spec (ns := n :: ns) (by simp)
        have : m = minL (n :: ns) := by have := q2 m hm; have := hall _ q1; omega
        rw [this]; exact p.go rh repI
      rcases s with s | s
      · exact .inr (.inl ⟨a, _, rfl, s, by simp, fin⟩)
      · exact .inr (.inr ⟨a, _, rfl, s, by simp, fin⟩)
    · exact p.elim
  · exact p.elim
def anyP (x : PV) (h : VH) : Res PV := match blsIn x h with
  | some ns => .ok (.bl (ns.any id)) h
  | none => .bad
def allP (x : PV) (h : VH) : Res PV := match blsIn x h with
  | some ns => .ok (.bl (ns.all id)) h
  | none => .bad
@[simp] theorem anyP_bls (ns : List Bool) (h : VH) : anyP (.lst (ns.map PV.bl)) h = .ok (.bl (ns.any id)) h := by simp [anyP]
@[simp] theorem allP_bls (ns : List Bool) (h : VH) : allP (.lst (ns.map PV.bl)) h = .ok (.bl (ns.all id)) h := by simp [allP]
theorem anyS : CallS c X (rAny X.K) (one anyP) := fun g h H xs us Q E r rh p => by
  obtain ⟨x, u, rfl, rfl, rx, p⟩ := one_run r p
  unfold anyP at p
  split at p
  · rename_i ns e
    obtain ⟨a, rfl, s⟩ := blsIn_run rx rh e
    exact ⟨a, ns, rfl, s, p.go rh repB⟩
  · exact p.elim
theorem allS : CallS c X (rAll X.K) (one allP) := fun g h H xs us Q E r rh p => by
  obtain ⟨x, u, rfl, rfl, rx, p⟩ := one_run r p
  unfold allP at p
  split at p
  · rename_i ns e
    obtain ⟨a, rfl, s⟩ := blsIn_run rx rh e
    exact ⟨a, ns, rfl, s, p.go rh repB⟩
  · exact p.elim
/-- the same numbers, rising -/
def sortI (ns : List Int) : List Int := ns.mergeSort (fun a b => decide (a ≤ b))
theorem sortI_perm (ns : List Int) : (sortI ns).Perm ns := List.mergeSort_perm _ _
theorem sortI_le (ns : List Int) : (sortI ns).Pairwise (· ≤ ·) := by
  have := List.pairwise_mergeSort (le := fun a b : Int => decide (a ≤ b)) (fun a b c h1 h2 => by simp only [decide_eq_true_eq] at *; omega) (fun a b => by simp only [Bool.or_eq_true, decide_eq_true_eq]; omega) ns
  exact this.imp fun h => by simpa using h
theorem sorted_uniq : ∀ {a b : List Int}, a.Perm b → a.Pairwise (· ≤ ·) → b.Pairwise (· ≤ ·) → a = b := fun {a b} hp ha hb =>
  List.Perm.eq_of_pairwise (le := fun x y : Int => x ≤ y) (fun x y _ _ h1 h2 => Int.le_antisymm h1 h2) ha hb hp
def sortedP (cell : Bool) (x : PV) (h : VH) : Res PV := match intsIn x h with
  | some ns => mkL cell ((sortI ns).map PV.int) h
  | none => .bad
theorem sortedP_ok {cell : Bool} {x : PV} {h : VH} {ns : List Int} (e : intsIn x h = some ns) : sortedP cell x h = mkL cell ((sortI ns).map PV.int) h := by simp [sortedP, e]
theorem sortedS (cell : Bool) : CallS c X (rSortedI X.K) (one (sortedP cell)) := fun g h H xs us Q E r rh p => by
  obtain ⟨x, u, rfl, rfl, rx, p⟩ := one_run r p
  unfold sortedP at p
  split at p
  · rename_i ns e
    obtain ⟨a, rfl, s⟩ := intsIn_run rx rh e
    refine ⟨a, ns, rfl, s, fun ns' q hp hs nq => ?_⟩
    have : ns' = sortI ns := sorted_uniq (hp.trans (sortI_perm ns).symm) hs (sortI_le ns)
    rw [this]
    exact mkL_new rh (Reps.ints _) p q nq
  · exact p.elim
end
end Pm
namespace Pm
open PySem PySem.Spec L2 PyProof.Rows

/-! ### t[::-1] of a tuple -/
section
variable {prog : Program} {w : World} {A : Around} {E : Value → Shared → Prop} {s : Shared}
theorem places_rev (n : Nat) : Builtin.Slice.slicePlaces ((n : Int) - 1) (-1) (-1) = n := by
  unfold Builtin.Slice.slicePlaces
  have h1 : ¬ ((-1 : Int) > 0) := by omega
  simp only [h1, if_false]
  split
  · have e : ((n : Int) - 1 - -1 - 1) / (- -1) = (n : Int) - 1 := by
      rw [show (- -1 : Int) = 1 by decide, Int.ediv_one]; omega
    first
      | (rw [e]; omega)
      | (simp only [show (- -1 : Int) = 1 by decide, Int.ediv_one]; omega)
  · omega
theorem applied_rev {sl : Addr} {vs : Value} {n : Nat} {Q : Int × Int × Nat → Shared → Prop} (hs : s.heap.IsSliceOf sl .none .none vs) (ps : IsPart vs (some (-1)))
    (h : Q ((n : Int) - 1, -1, n) s) : wpAny (model prog w) A (Builtin.Slice.sliceApplied (.ref sl) (pure (n : Int))) Q E s := by
  obtain ⟨os, hos, hcs, hds⟩ := id hs
  unfold Builtin.Slice.sliceApplied Builtin.Slice.sliceFields
  refine wpAny_bind (wpAny_bind (wpAny_field hos hds (x := .none) rfl (wpAny_bind (wpAny_field hos hds (x := .none) rfl (wpAny_bind (wpAny_field hos hds (x := vs) rfl (wpAny_pure ?_)))))))
  refine wpAny_bind (HT.slicePart_ ps ?_)
  show wpAny _ _ (if ((-1 : Int) == 0) = true then _ else _) _ _ s
  rw [if_neg (by decide)]
  refine wpAny_bind (slicePart_none (wpAny_bind (slicePart_none (wpAny_bind (wpAny_pure ?_)))))
  show wpAny _ _ (match Builtin.Slice.sliceAdjust none none (-1) (n : Int) with | (lo, hi) => pure (lo, (-1 : Int), Builtin.Slice.slicePlaces lo hi (-1))) _ _ s
  have ea : Builtin.Slice.sliceAdjust none none (-1) (n : Int) = ((n : Int) - 1, -1) := by
    unfold Builtin.Slice.sliceAdjust
    simp
  rw [ea]
  show wpAny _ _ (pure ((n : Int) - 1, (-1 : Int), Builtin.Slice.slicePlaces ((n : Int) - 1) (-1) (-1))) _ _ s
  rw [places_rev]
  exact wpAny_pure h
theorem pick_rev (xs : Array Value) : ((List.range xs.size).filterMap fun (m : Nat) => xs[((xs.size : Int) - 1 + (m : Int) * (-1)).toNat]?).toArray = xs.toList.reverse.toArray := by
  have e : ((List.range xs.size).filterMap fun (m : Nat) => xs[((xs.size : Int) - 1 + (m : Int) * (-1)).toNat]?) = ((List.range xs.size).map fun k => xs.size - 1 - k).filterMap (xs[·]?) := by
    rw [List.filterMap_map]
    have gen : ∀ l : List Nat, (∀ k ∈ l, k < xs.size) → (l.filterMap fun (m : Nat) => xs[((xs.size : Int) - 1 + (m : Int) * (-1)).toNat]?) = l.filterMap ((xs[·]?) ∘ fun k => xs.size - 1 - k) := by
      intro l
      induction l with
      | nil => intro _; rfl
      | cons k l ih =>
        intro hl
        have hk := hl k List.mem_cons_self
        have ek : ((xs.size : Int) - 1 + (k : Int) * (-1)).toNat = xs.size - 1 - k := by omega
        simp only [List.filterMap_cons, ek, Function.comp, ih fun j hj => hl j (List.mem_cons_of_mem _ hj)]
    exact gen _ fun k hk => List.mem_range.mp hk
  rw [e, PySem.W.krv_range, List.filterMap_reverse, PySem.W.krv_all]
theorem item_rev {t sl : Addr} {items : Array Value} {vs : Value} {Q : Value → Shared → Prop} (ht : IsTup s.heap t items) (hs : s.heap.IsSliceOf sl .none .none vs) (ps : IsPart vs (some (-1)))
    (h : Q (.ref s.heap.objs.size) { s with heap := s.heap.push { cls := .type "tuple", data := .seq items.toList.reverse.toArray } }) (hsz : items.size ≤ sizeLine) : wpAny (model prog w) A (getItem (.ref t) (.ref sl)) Q E s := by
  have htake : sizeOk (.seq items.toList.reverse.toArray) := by
    show items.toList.reverse.toArray.size ≤ sizeLine
    rw [List.size_toArray, List.length_reverse, Array.length_toList]; exact hsz
  obtain ⟨os, hos, hcs, hds⟩ := id hs
  have hT : s.TypeIs (.ref sl) "slice" := ⟨os, hos, hcs⟩
  unfold getItem
  try with_reducible refine wpAny_holding ?_
  first | refine wpAny_bind (wpAny_pure ?_) | skip
  refine wpAny_bind (wpAny_sequenceKey ht.typeIs (by decide) (wpAny_bind (wpAny_callSpecial?_slot (name := Str.ofString "__getitem__") ht.typeIs PyProof.Rows.slot_tuple_getitem (wpAny_call_entry PyProof.Rows.slot_tuple_getitem ht.typeIs entry_tuple_getitem ?_ (args_tuple_getitem _ _)))))
  show wpAny _ _ (Builtin.Tuple.tupleItemsOf (.ref t) >>= _) _ _ s
  refine wpAny_bind (tupleItemsOf_ ht (wpAny_bind (wpAny_typeOf hT ?_)))
  rw [if_pos (by decide)]
  refine wpAny_bind (applied_rev hs ps ?_)
  have hno : ¬ (((items.size : Int) - 1 == 0 && (-1 : Int) == 1 && items.size == items.size) = true) := by simp
  show wpAny _ _ (if ((items.size : Int) - 1 == 0 && (-1 : Int) == 1 && items.size == items.size) = true then _ else _) _ _ s
  rw [if_neg hno, pick_rev]
  first
    | exact wpAny_bind (m := Builtin.Tuple.tupleExact _) (wpAny_newObj_type (wpAny_pure ⟨_, rfl, wpAny_pure h⟩) htake)
    | exact wpAny_bind (m := Builtin.Tuple.tupleExact _) (wpAny_newObj_type (wpAny_bind (wpAny_pure (wpAny_pure ⟨_, rfl, wpAny_pure h⟩))) htake)
    | exact wpAny_bind (wpAny_bind (m := Builtin.Tuple.tupleExact _) (wpAny_newObj_type (wpAny_pure (wpAny_pure ⟨_, rfl, wpAny_pure h⟩)) htake))
    | exact wpAny_bind (wpAny_bind (m := Builtin.Tuple.tupleExact _) (wpAny_newObj_type (wpAny_pure ⟨_, rfl, wpAny_pure h⟩) htake))
end
section
variable {X : Cx}
def tRevA (K : PySem.W.Frag) (te : TE) : TE := fun σ H Q => te σ H fun x H1 => ∃ a xs, x = .ref a ∧ ((SqL K H1 a xs ∧ ∀ p, H1 p = none → Q (.ref p) (upd H1 p (.lst xs.reverse))) ∨ (SqT K H1 a xs ∧ ∀ p, H1 p = none → Q (.ref p) (upd H1 p (.tup xs.reverse))))
theorem pe_revA {e : Expr} {te : TE} {k : Nat} {p1 p2 p3 pos : Pos} (he : PE X e te) : PE X (.Subscript e (.Slice none none (some (.UnaryOp .USub (.Constant (.int 1) k p1) p2)) p3) pos) (tRevA X.K te) := by
  refine ⟨fun pins s σ H Q I h => Subscript_ (thn (he.run pins s σ H _ I h) fun v s1 ⟨x, H1, I1, r1, a, xs, ex, q⟩ => ?_)⟩
  subst ex
  cases r1
  have hst : L2.PO X (some (.UnaryOp .USub (.Constant (.int 1) k p1) p2)) (tPart (tUn (rU fun i => .int (-i)) (tC (.int 1)))) := po_some (pe_un un_neg pe_int)
  refine wpAny_Slice (thn (po_none.run pins s1 σ H1 (fun o H2 => o = none ∧ H2 = H1) I1 ⟨rfl, rfl⟩) fun vl s2 ⟨l, H2, I2, pl, el, e2⟩ => ?_)
  subst el e2
  refine thn (po_none.run pins s2 σ H2 (fun o H3 => o = none ∧ H3 = H2) I2 ⟨rfl, rfl⟩) fun vu s3 ⟨u, H3, I3, pu, eu, e3⟩ => ?_
  subst eu e3
  refine thn (hst.run pins s3 σ H3 (fun o H4 => o = some (-1) ∧ H4 = H3) I3 ⟨1, rfl, -1, rfl, rfl, rfl⟩) fun vs s4 ⟨o, H4, I4, ps, eo, e4⟩ => ?_
  subst eo e4
  have I5 : Inv X pins σ H4 { s4 with heap := s4.heap.push { cls := .type "slice", data := .fields #[vl, vu, vs] } } := I4.kept (t' := s4.toks) fun b ob q => Heap.get?_push_of_some _ q
  show wpAny (model X.prog X.w) X.A (subscriptTail e (.Slice none none (some (.UnaryOp .USub (.Constant (.int 1) k p1) p2)) p3) (.ref a) (.ref s4.heap.objs.size)) (EP X pins σ Q) X.xe _
  rcases q with ⟨hx, q⟩ | ⟨hx, q⟩
  · obtain ⟨its, r, ht, hz⟩ := I5.list hx
    have hlen := r.length
    refine tail_any (ops := [.ref a, .ref s4.heap.objs.size]) ht.isList.typeIs (PySem.slot_list_getitem.lookup) ?_ (by with_unfolding_all rfl)
    refine wpAny_getItem_list_slice ht.isList (Heap.IsSliceOf.new _ vl vu vs) pl pu ps (by decide) ?_ (by rw [List.size_toArray]; omega)
    rw [PySem.W.krv_pick]
    refine ⟨.ref _, _, I5.laid (t' := s4.toks) (o := .lst xs.reverse) (fun b ob q => Heap.get?_push_of_some _ q) (Nat.le_refl _) ?_, rfl, q _ (I5.hok.fresh (Nat.le_refl _))⟩
    exact ⟨by rw [List.length_reverse]; exact hz, _, 0, r.reverse, Heap.get?_push_size _ rfl⟩
  · obtain ⟨its, r, ht, hz⟩ := I5.tuple hx
    have hlen := r.length
    cases pl
    cases pu
    refine tail_any (ops := [.ref a, .ref s4.heap.objs.size]) ht.typeIs (PyProof.Rows.slot_tuple_getitem.lookup) ?_ (by with_unfolding_all rfl)
    refine item_rev ht (Heap.IsSliceOf.new _ .none .none vs) ps ?_ (by rw [List.size_toArray]; omega)
    refine ⟨.ref _, _, I5.laid (t' := s4.toks) (o := .tup xs.reverse) (fun b ob q => Heap.get?_push_of_some _ q) (Nat.le_refl _) ?_, rfl, q _ (I5.hok.fresh (Nat.le_refl _))⟩
    exact ⟨by rw [List.length_reverse]; exact hz, _, r.reverse, _, Heap.get?_push_size _ rfl, rfl, 0, by simp⟩
end
section
variable {c : Ck} {X : Cx} {W : WX} {pos : Pos} {e : Expr} {es : List Expr} {m : EM} {ms : AM}
def revP (cell : Bool) (x : PV) (h : VH) : Res PV := match x with
  | .tup xs => .ok (.tup xs.reverse) h
  | x => match lstOf x h with
    | some xs => mkL cell xs.reverse h
    | none => .bad
@[simp] theorem revP_tup (cell : Bool) (xs : List PV) (h : VH) : revP cell (.tup xs) h = .ok (.tup xs.reverse) h := (rfl)
@[simp] theorem revP_lst (cell : Bool) (xs : List PV) (h : VH) : revP cell (.lst xs) h = mkL cell xs.reverse h := (rfl)
theorem SE.rev (cell : Bool) {k : Nat} {p1 p2 p3 : Pos} (he : SE c X W e m) : SE c X W (.Subscript e (.Slice none none (some (.UnaryOp .USub (.Constant (.int 1) k p1) p2)) p3) pos) (eUn (revP cell) m) := by
  obtain ⟨t, p, s⟩ := he
  refine ⟨_, pe_revA p, fun g σ h τ H Q rs rh q => ?_⟩
  refine s g σ h τ H _ rs rh ((Post.bind q).imp (fun u H1 ⟨g1, x, h1, m1, q1⟩ => ?_) fun _ _ _ z => z)
  unfold revP at q1
  split at q1
  · obtain ⟨a, us, rfl, hs, r⟩ := tup_run m1.rep m1.rel
    exact ⟨a, us, rfl, .inr ⟨.inl (.inl hs), tup_new m1.rel r.reverse q1⟩⟩
  · split at q1
    · obtain ⟨a, us, rfl, hs, r⟩ := lstOf_run m1.rep m1.rel ‹_›
      exact ⟨a, us, rfl, .inl ⟨hs, mkL_new m1.rel r.reverse q1⟩⟩
    · exact q1.elim

/-! ### a[i] -/
def ixP (x y : PV) (h : VH) : Res PV := match y with
  | .int i => match x with
    | .str z => match atI z.cps.toList i with
      | some k => if z.length ≤ 16777216 then .ok (.str ⟨#[k]⟩) h else .bad
      | none => .bad
    | x => match seqOf x h with
      | some xs => match atI xs i with
        | some v => .ok v h
        | none => .bad
      | none => .bad
  | _ => .bad
theorem ixP_seq {x : PV} {h : VH} {xs : List PV} {i : Int} {v : PV} (e : seqOf x h = some xs) (a : atI xs i = some v) : ixP x (.int i) h = .ok v h := by
  cases x with
  | str z => cases e
  | _ => simp only [ixP, e, a]
theorem ixP_str {z : Str} {i : Int} {k : Nat} {h : VH} (a : atI z.cps.toList i = some k) (b : z.length ≤ 16777216) : ixP (.str z) (.int i) h = .ok (.str ⟨#[k]⟩) h := by
  simp only [ixP, a, if_pos b]
theorem atI_nat {α : Type} {xs : List α} {n : Nat} : atI xs (n : Int) = xs[n]? := by
  unfold atI ixN
  rw [if_pos (by omega)]
  by_cases h : n < xs.length
  · rw [if_pos (by omega)]; simp
  · rw [if_neg (by omega), List.getElem?_eq_none (by omega)]; rfl
theorem atI_pos {α : Type} {xs : List α} {i : Int} (h : 0 ≤ i) : atI xs i = xs[i.toNat]? := by
  obtain ⟨n, rfl⟩ := Int.eq_ofNat_of_zero_le h
  exact atI_nat
theorem atI_last {α : Type} {xs : List α} {n : Nat} (h : xs.length = n + 1) : atI xs (-1) = xs[n]? := by
  unfold atI ixN
  rw [if_neg (by omega), if_pos (by omega)]
  have : ((-1 : Int) + (xs.length : Nat)).toNat = n := by omega
  simp [this]
theorem atI_some {α : Type} {xs : List α} {i : Int} {v : α} (h : atI xs i = some v) : ∃ j, ixN xs.length i = some j ∧ xs[j]? = some v := Option.bind_eq_some_iff.mp h
theorem atI_rep {K : Kc} {g : Gh} {n : Nat} {xs : List PV} {us : List V} {i : Int} {v : PV} (r : Reps K g n xs us) (h : atI xs i = some v) : ∃ u, atI us i = some u ∧ Rep K g n v u := by
  obtain ⟨j, e1, e2⟩ := atI_some h
  obtain ⟨u, e3, r3⟩ := r.get e2
  refine ⟨u, ?_, r3⟩
  unfold atI
  rw [r.length, e1]
  exact e3
theorem ixS : OpS c X (rIx X.K) ixP := fun g h H x y u v Q E rx ry rh p => by
  unfold ixP at p
  split at p
  · simp only [Rep] at ry
    split at p
    · split at p
      · split at p
        · simp only [Rep] at rx
          exact .inr (.inr ⟨_, _, _, rx, ry, by rw [sizeLine_eq]; assumption, ‹_›, p.go rh repS⟩)
        · exact p.elim
      · exact p.elim
    · split at p
      · rename_i xs e1
        split at p
        · rename_i v e2
          obtain ⟨a, us, rfl, s, r⟩ := seqOf_run rx rh e1
          obtain ⟨u', e3, r3⟩ := atI_rep r e2
          rcases s with s | s
          · exact .inl ⟨a, us, _, u', rfl, ry, s, e3, p.go rh r3⟩
          · exact .inr (.inl ⟨a, us, _, u', rfl, ry, s, e3, p.go rh r3⟩)
        · exact p.elim
      · exact p.elim
  · exact p.elim
variable {a b : Expr} {ma mb : EM}
theorem SE.ix (ha : SE c X W a ma) (hb : SE c X W b mb) (hs : PlainIx b := by intro _ _; rfl) : SE c X W (.Subscript a b pos) (eBin ixP ma mb) := by
  obtain ⟨ta, pa, sa⟩ := ha
  obtain ⟨tb, pb, sb⟩ := hb
  exact ⟨_, pe_ix ix_seq pa pb hs, fun g σ h τ H Q rs rh p => two_run sa sb rs rh p fun g h H x y u v rx ry rh p => ixS g h H x y u v Q _ rx ry rh p⟩

/-! ### a[lo:hi] -/
def cutP (xs : List PV) (lo hi : Option Int) : List PV := (xs.drop (HT.sIx xs.length 0 lo)).take (HT.sIx xs.length xs.length hi - HT.sIx xs.length 0 lo)
theorem cutP_rep {K : Kc} {g : Gh} {n : Nat} {xs : List PV} {us : List V} {lo hi : Option Int} (r : Reps K g n xs us) : Reps K g n (cutP xs lo hi) (cutV us lo hi) := by
  unfold cutP cutV
  rw [r.length]
  exact (r.drop _).take _
def slP (cell : Bool) (x : PV) (lo hi : Option Int) (h : VH) : Res PV := match x with
  | .str z => if z.length ≤ 16777216 then .ok (.str (cutS z lo hi)) h else .bad
  | .tup xs => .ok (.tup (cutP xs lo hi)) h
  | x => match lstOf x h with
    | some xs => mkL cell (cutP xs lo hi) h
    | none => .bad
@[simp] theorem slP_tup (cell : Bool) (xs : List PV) (lo hi : Option Int) (h : VH) : slP cell (.tup xs) lo hi h = .ok (.tup (cutP xs lo hi)) h := (rfl)
theorem slP_lst {cell : Bool} {x : PV} {xs : List PV} {lo hi : Option Int} {h : VH} (e : lstOf x h = some xs) : slP cell x lo hi h = mkL cell (cutP xs lo hi) h := by
  cases x with
  | str z => cases e
  | tup z => cases e
  | _ => simp only [slP, e]
theorem slP_str {cell : Bool} {z : Str} {lo hi : Option Int} {h : VH} (b : z.length ≤ 16777216) : slP cell (.str z) lo hi h = .ok (.str (cutS z lo hi)) h := if_pos b
def rSlAll (K : PySem.W.Frag) : V → Option Int → Option Int → Hp → VK → Prop := fun x lo hi H Q => rSlL K x lo hi H Q ∨ rSlA K x lo hi H Q ∨ rSlS x lo hi H Q
theorem sl_all : SlR X (rSlAll X.K) := sl_list.or (sl_tupA.or sl_str)
def oNone : LS → VH → Res (Option Int) := fun _ h => .ok none h
def asI : PV → VH → Res (Option Int)
  | .int i, h => .ok (some i) h
  | _, _ => .bad
@[simp] theorem asI_int (i : Int) (h : VH) : asI (.int i) h = .ok (some i) h := (rfl)
def oSome (m : EM) : LS → VH → Res (Option Int) := fun σ h => (m σ h).bind asI
abbrev RepI : Gh → Nat → Option Int → Option Int → Prop := fun _ _ a b => b = a
def SO (c : Ck) (X : Cx) (W : WX) (e : Option Expr) (m : LS → VH → Res (Option Int)) : Prop := ∃ t, L2.PO X e t ∧ ∀ g σ h τ H Q, RelS (kx c X) g h.length σ τ → RelH (kx c X) g h H → Post (kx c X) RepI g h.length Q (at_ W τ) (m σ h) → t τ H Q
theorem SO.none : SO c X W none oNone := ⟨_, po_none, fun g σ h τ H Q rs rh q => q g _ H (Gh.le.refl _ _) (Nat.le_refl _) rh rfl⟩
theorem SO.some (he : SE c X W e m) : SO c X W (some e) (oSome m) := by
  obtain ⟨t, p, s⟩ := he
  refine ⟨_, po_some p, fun g σ h τ H Q rs rh q => ?_⟩
  refine s g σ h τ H _ rs rh ((Post.bind q).imp (fun u H1 ⟨g1, x, h1, m1, q1⟩ => ?_) fun _ _ _ z => z)
  cases x with
  | int i =>
    have := m1.rep
    simp only [Rep] at this
    exact ⟨i, this, q1 g1 _ H1 (Gh.le.refl _ _) (Nat.le_refl _) m1.rel rfl⟩
  | _ => exact q1.elim
def eSl (cell : Bool) (m : EM) (lo hi : LS → VH → Res (Option Int)) : EM := fun σ h => (m σ h).bind fun x h1 => (lo σ h1).bind fun l h2 => (hi σ h2).bind fun u h3 => slP cell x l u h3
theorem SE.sl (cell : Bool) {lo hi : Option Expr} {ml mh : LS → VH → Res (Option Int)} {p2 : Pos} (he : SE c X W e m) (hl : SO c X W lo ml) (hh : SO c X W hi mh) : SE c X W (.Subscript e (.Slice lo hi none p2) pos) (eSl cell m ml mh) := by
  obtain ⟨t, p, s⟩ := he
  obtain ⟨tl, pl, sl⟩ := hl
  obtain ⟨th, ph, sh⟩ := hh
  refine ⟨_, pe_slice sl_all p pl ph, fun g σ h τ H Q rs rh q => ?_⟩
  refine s g σ h τ H _ rs rh ((Post.bind q).imp (fun u H1 ⟨g1, x, h1, m1, q1⟩ => ?_) fun _ _ _ z => z)
  refine sl g1 σ h1 τ H1 _ (rs.mono m1.le m1.len) m1.rel ((Post.bind q1).imp (fun l H2 ⟨g2, l', h2, m2, q2⟩ => ?_) fun _ _ _ z => z)
  obtain rfl : l = l' := m2.rep
  have le2 := m1.le.trans m2.le m1.len
  have ln2 := Nat.le_trans m1.len m2.len
  refine sh g2 σ h2 τ H2 _ (rs.mono le2 ln2) m2.rel ((Post.bind q2).imp (fun w H3 ⟨g3, w', h3, m3, q3⟩ => ?_) fun _ _ _ z => z)
  obtain rfl : w = w' := m3.rep
  have rx := (m1.rep.mono m2.le m2.len).mono m3.le m3.len
  have q3 : Post (kx c X) (Rep (kx c X)) g3 h3.length Q (at_ W τ) (slP cell x l w h3) := q3
  have viaL : ∀ {xs : List PV}, lstOf x h3 = some xs → Post (kx c X) (Rep (kx c X)) g3 h3.length Q (at_ W τ) (mkL cell (cutP xs l w) h3) → rSlAll X.K u l w H3 Q := fun {xs} e q => by
    obtain ⟨a, us, rfl, hs, r⟩ := lstOf_run rx m3.rel e
    exact .inl ⟨a, us, rfl, hs, mkL_new m3.rel (cutP_rep r) q⟩
  cases x with
  | str z =>
    by_cases hz : z.length ≤ 16777216
    · rw [slP_str hz] at q3
      simp only [Rep] at rx
      exact .inr (.inr ⟨_, rx, by rw [sizeLine_eq]; exact hz, q3.go m3.rel repS⟩)
    · have e : slP cell (.str z) l w h3 = .bad := if_neg hz
      rw [e] at q3
      exact q3.elim
  | tup xs =>
    obtain ⟨a, us, rfl, hs, r⟩ := tup_run rx m3.rel
    rw [slP_tup] at q3
    refine .inr (.inl ⟨a, us, rfl, .inl (.inl hs), fun z => ?_, fun _ => tup_new m3.rel (cutP_rep r) q3⟩)
    have e : cutP xs l w = xs := by
      rw [r.length] at z
      unfold cutP
      rw [z.1, z.2, List.drop_zero, Nat.sub_zero, List.take_length]
    rw [e] at q3
    exact q3.go m3.rel rx
  | lst xs => exact viaL rfl q3
  | scr xs => exact viaL rfl q3
  | ref i =>
    cases e : lstOf (.ref i) h3 with
    | some xs => rw [slP_lst e] at q3; exact viaL e q3
    | none => unfold slP at q3; simp only [e] at q3; exact q3.elim
  | _ => exact q3.elim
end
end Pm
namespace PySem
open Sem (wp)
open AutoSeq1 (wpAny_loadPart')
set_option maxHeartbeats 4000000 in
theorem pm_enumerate_newT (l : Addr) (items : Array Value) (n : Nat) (dct : Option Addr) (sl : Array (Option Value)) :
    Meets (Builtin.«enumerate.__new__» ⟨[.type "enumerate", .ref l], []⟩) (fun _ R s => s.heap.get? l = some { cls := .type "tuple", dict := dct, data := .seq items n, slots := sl } ∧
      R (.ok (.ret (.ref (s.heap.push { cls := .type "tuple_iterator", data := .fields #[.ref l, .int 0 0] }).objs.size)))
        { s with heap := (s.heap.push { cls := .type "tuple_iterator", data := .fields #[.ref l, .int 0 0] }).push { cls := .type "enumerate", data := .fields #[.none, .bool false, .ref s.heap.objs.size, rawInt 0, .none, .none] } }) :=
  .of_wp fun prog w A R s h => by
    obtain ⟨hp, g, d, tk, os⟩ := s; obtain ⟨hl, h⟩ := h
    have hsub := sub_enumerate
    have hL : Heap.IsTuple (Shared.heap ⟨hp, g, d, tk, os⟩) l items := ⟨_, hl, rfl, n, rfl⟩
    wp_walk using wpAny_loadPart' hl
    refine wpAny_stack_any fun st => wpAny_pure ?_
    split
    · rename_i c _ _ _ _ _
      cases (c == Value.type "enumerate")
      · wp_walk using wpAny_loadPart' hl, wpAny_pyIter_tuple hL
        exact ⟨_, rfl, h⟩
      · wp_walk using wpAny_loadPart' hl, wpAny_pyIter_tuple hL
        exact ⟨_, rfl, h⟩
    · wp_walk using wpAny_loadPart' hl, wpAny_pyIter_tuple hL
      exact ⟨_, rfl, h⟩
section
variable {prog : Program} {w : World} {A : Around} {E : Value → Shared → Prop} {s : Shared}
theorem pm_call_enumerate_tuple {l : Addr} {items : Array Value} {Q : Value → Shared → Prop} (hL : s.heap.IsTuple l items)
    (h : ∀ h', IsEnum h' (s.heap.objs.size + 1) s.heap.objs.size 0 .none → h'.IsTupleIter s.heap.objs.size l 0 → h'.objs.size = s.heap.objs.size + 2 →
      (∀ b o, s.heap.get? b = some o → h'.get? b = some o) → Q (.ref (s.heap.objs.size + 1)) { s with heap := h' }) :
    wpAny (model prog w) A (call (.type "enumerate") [.ref l]) Q E s := by
  obtain ⟨⟨c, dct, dt, sl⟩, hl, hc, n, hd⟩ := hL
  replace hc : c = .type "tuple" := hc
  replace hd : dt = .seq items n := hd
  subst hc hd
  refine callType_new F.called_enumerate (by decide) (F.typeCall_enumerate_1 _) (F.newCall_enumerate_1 _) (fun obj => F.args_object_init_2 obj _) F.entry_enumerate_new
    (pm_enumerate_newT l items n dct sl) ⟨hl, ?_⟩
  have hz : (s.heap.push { cls := .type "tuple_iterator", data := .fields #[.ref l, .int 0 0] }).objs.size = s.heap.objs.size + 1 := Heap.size_push ..
  show _ ∧ _
  rw [hz]
  have he : IsEnum ((s.heap.push { cls := .type "tuple_iterator", data := .fields #[.ref l, .int 0 0] }).push
      { cls := .type "enumerate", data := .fields #[.none, .bool false, .ref s.heap.objs.size, rawInt 0, .none, .none] }) (s.heap.objs.size + 1) s.heap.objs.size 0 .none := by
    have := Heap.get?_push_size (s.heap.push { cls := .type "tuple_iterator", data := .fields #[.ref l, .int 0 0] })
      (o := { cls := .type "enumerate", data := .fields #[.none, .bool false, .ref s.heap.objs.size, rawInt 0, .none, .none] }) rfl
    rw [hz] at this; exact this
  refine ⟨⟨_, he, rfl⟩, h _ he ⟨_, Heap.get?_push_of_some _ (Heap.get?_push_size _ rfl), rfl, rfl⟩ (by rw [Heap.size_push, hz]) fun b o x => Heap.get?_push_of_some _ (Heap.get?_push_of_some _ x)⟩
theorem pm_pyNext_enum_endT {e it l : Addr} {i : Nat} {k : Int} {items : Array Value} {old : Value} {Q : Option Value → Shared → Prop} (hh : A.in1.handled = none)
    (he : IsEnum s.heap e it k old) (hit : s.heap.IsTupleIter it l i) (hl : s.heap.IsTuple l items) (hx : items[i]? = none)
    (hQ : ∀ h', Heap.ExtBut it s.heap h' → Q none { s with heap := h' }) : wpAny (model prog w) A (pyNext (.ref e)) Q E s := by
  have hT : s.TypeIs (.ref e) "enumerate" := ⟨_, he, rfl⟩
  unfold pyNext
  refine wpAny_bind (wpAny_attempt (wpAny_callSpecial?_slot (name := Str.ofString "__next__") hT F.slot_enumerate_next
    (wpAny_call_entry F.slot_enumerate_next hT F.entry_enumerate_next ?_ (F.args_enumerate_next_1 _))))
  show wpAny _ _ (field (.ref e) 2 >>= _) _ _ _
  refine wpAny_bind (wpAny_field he rfl (x := .ref it) rfl ?_)
  refine wpAny_bind (wpAny_nextOf_tuple_end hh hit hl hx fun h' x he' hx' => ?_)
  obtain ⟨o, ho, hc⟩ := hx'
  refine wpAny_bind (wpAny_isInstance (T := "StopIteration") (b := true) ⟨o, ho, hc⟩ isSubtype_stop ?_)
  exact wpAny_pure (hQ _ he')
end
end PySem
namespace Pm
open PySem PySem.Spec L2 PyProof.Rows
/-- a tuple as it stands at each turn, each item in a new pair behind its place -/
def IteT (K : PySem.W.Frag) (a : Addr) : It :=
  ⟨fun i H => ∃ (xs : List V) (x : V), SqT K H a xs ∧ xs[i]? = some x, fun i H v H' => ∃ T x, v = .ref T ∧ H T = none ∧ H' = upd H T (.tup [.int (i : Nat), x]) ∧ ∀ xs, SqT K H a xs → xs[i]? = some x, fun i H => ∃ xs : List V, SqT K H a xs ∧ xs.length ≤ i⟩
theorem turn_enumT {P : Program} {w : World} {K : PySem.W.Frag} {elts : List Expr} {kk : Nat} {tpos : Pos} (a e it : Addr) :
    Turn P w K (.Tuple elts kk tpos) (IteT K a) [e, it] e (fun i h => (∃ old, IsEnum h e it ((i : Nat) : Int) old) ∧ h.IsTupleIter it a i ∧ e ≠ it ∧ a ≠ it ∧ a ≠ e) where
  mem := by simp
  obj := fun i h st b hb => by
    obtain ⟨⟨old, he⟩, ⟨o, ho, hc, hd⟩, _⟩ := st
    have e' : b = e ∨ b = it := by simpa using hb
    rcases e' with z | z
    · rw [z]; exact ⟨_, he, fun v q => nomatch q⟩
    · rw [z]; exact ⟨o, ho, fun v q => by rw [hd] at q; cases q⟩
  keep := fun i h h' st k => let ⟨⟨old, he⟩, hi, hne⟩ := st; ⟨⟨old, k e (by simp) _ he⟩, hi.at fun o q => k it (by simp) o q, hne⟩
  item := by
    intro X hP hw hK hc i pins s σ H E I hf st hg
    subst hP hw hK
    obtain ⟨⟨old, he⟩, hit, hne, ha1, ha2⟩ := st
    obtain ⟨xs, x, hq, hx⟩ := hg
    obtain ⟨its, rv, p, hz⟩ := I.tuple hq
    obtain ⟨u, hu, ru⟩ := rv.get hx
    have hel : e < s.heap.objs.size := Heap.lt_size he
    have hil : it < s.heap.objs.size := by obtain ⟨_, q, _⟩ := hit; exact Heap.lt_size q
    have D := Draws.tuple (prog := X.prog) (w := X.w) (A := X.A.in1) (I.ok.hd hc) it a ha1 its.toArray
    have hi : i < its.toArray.size := by
      have := (List.getElem?_eq_some_iff.mp hu).1
      simpa using this
    refine wpAny_pyNext_enum_itemD D he ⟨hit, p⟩ hi hne (by simp; exact ⟨hne, fun z => ha2 z.symm⟩) fun x' h' tk hx' ho hst' hT hsz hk => ?_
    have ex : x' = u := by
      have h1 : its.toArray[i]? = some x' := hx'
      have h2 : its.toArray[i]? = some u := by simpa using hu
      rw [h1] at h2; cases h2; rfl
    subst ex
    refine ⟨_, rfl, wpAny_letOwnedTupleGo_enum (s := { s with heap := h', toks := tk + 1 }) ho fun h'' he' sb => ?_⟩
    have hT2 : h''.get? s.heap.objs.size = some { cls := .type "tuple", data := .seq #[.int i tk, x'] } := (sb.2 _ (Nat.ne_of_gt hel)).trans hT
    have new : ObjOk X.prog X.w (upd H s.heap.objs.size (.tup [.int (i : Nat), x])) h'' s.heap.objs.size (.tup [.int (i : Nat), x]) :=
      ⟨by show 2 ≤ sizeLine; decide, [.int i tk, x'], .cons ⟨_, rfl⟩ (.cons ru .nil), ⟨_, hT2, rfl, _, rfl⟩⟩
    have I1 : Inv X pins σ (upd H s.heap.objs.size (.tup [.int (i : Nat), x])) { s with heap := h'', toks := tk + 1 } :=
      I.turnedNew (ch := [e, it]) (fun b ob hb q => (sb.2 b (fun z => hb (by simp [z]))).trans (hk b ob (fun z => hb (by simp [z])) (fun z => hb (by simp [z])) q)) hf (Nat.le_refl _) new
    refine ⟨.ref s.heap.objs.size, _, I1, rfl, ⟨_, x, rfl, I.hok.fresh (Nat.le_refl _), rfl, fun ys hy => by rw [I.tuple_inj hy hq]; exact hx⟩, ⟨⟨x', ?_⟩, hst'.1.at fun o q => (sb.2 it (Ne.symm hne)).trans q, hne, ha1, ha2⟩, fun b hb => ?_⟩
    · have e1 : ((i + 1 : Nat) : Int) = (i : Int) + 1 := by omega
      rw [e1]; exact he'
    · have hb' : b < s.heap.objs.size := by
        have e' : b = e ∨ b = it := by simpa using hb
        rcases e' with z | z
        · rw [z]; exact hel
        · rw [z]; exact hil
      rw [upd_ne (Nat.ne_of_lt hb')]
      exact (hf b hb).1
  done := by
    intro X hP hw hK hc i pins s σ H E I hf st hg
    subst hP hw hK
    obtain ⟨⟨old, he⟩, hit, hne, ha1, ha2⟩ := st
    obtain ⟨xs, hq, hx⟩ := hg
    obtain ⟨its, rv, p, hz⟩ := I.tuple hq
    obtain ⟨f0, f1, f2, f3, f4, f5⟩ := hf it (by simp)
    have hl := rv.length
    exact pm_pyNext_enum_endT (I.ok.hd hc) he hit p (by simp; omega) fun h' eb => ⟨rfl, I.turned (t' := s.toks) (fun b o hb q => eb b o hb q) f0 f1 f3 f4 f5⟩
  self := fun A i s Q E st h => let ⟨⟨_, he⟩, _⟩ := st; wpAny_pyIter_enum he h
def iEnumA (K : PySem.W.Frag) (ta : TA) : TI := fun σ H R => ta σ H fun vs H1 => ∃ a xs, vs = [.ref a] ∧ ((SqL K H1 a xs ∧ R (Ite K a) H1) ∨ (SqT K H1 a xs ∧ R (IteT K a) H1))
theorem pi_enumA {X : Cx} {e : Expr} {ta : TA} {p pos tpos : Pos} {elts : List Expr} {kk : Nat} (hg : Gl X "enumerate") (hm : X.mg "enumerate" = none) (ha : PA X [e] ta) (hs : starEach [e] X.env = [(false, eval e X.env)] := by rfl) :
    PI X (.Tuple elts kk tpos) (.Call (.Name "enumerate" p) [e] [] pos) (iEnumA X.K ta) := by
  refine ⟨fun pins s σ H R I h => ?_⟩
  refine Call_ (ld_blt I hg hm boot_enumerate (PyProof.Rows.callWith_type1 (thn (ha.run pos pins s σ H _ I h) fun us s1 ⟨vs, H1, I1, r1, q1⟩ => ?_) hs rfl))
  obtain ⟨a, xs, ex, q⟩ := q1
  subst ex
  cases r1 with
  | cons r rr =>
    cases rr
    cases r
    have fr : ∀ b, b ∈ [s1.heap.objs.size + 1, s1.heap.objs.size] → FpOk X pins H1 b := fun b hb => by
      have e' : b = s1.heap.objs.size + 1 ∨ b = s1.heap.objs.size := by simpa using hb
      have hle : s1.heap.objs.size ≤ b := by
        rcases e' with z | z
        · rw [z]; exact Nat.le_add_right _ _
        · rw [z]; exact Nat.le_refl _
      exact I1.fpOk hle (I1.hok.fresh hle)
    rcases q with ⟨hq, q⟩ | ⟨hq, q⟩
    · obtain ⟨its, rv, p', hz⟩ := I1.list hq
      refine call_enumerate_list p'.isList fun h' he hit hsz hk => wpAny_pyIter_enum he ?_
      have I2 : Inv X pins σ H1 { s1 with heap := h' } := I1.kept (t' := s1.toks) hk
      exact ⟨s1.heap.objs.size + 1, [s1.heap.objs.size + 1, s1.heap.objs.size], _, _, H1, rfl, I2, turn_enum a (s1.heap.objs.size + 1) s1.heap.objs.size, ⟨⟨.none, he⟩, hit, Nat.succ_ne_self _⟩, fr, q⟩
    · obtain ⟨its, rv, p', hz⟩ := I1.tuple hq
      obtain ⟨o1, ho1, _⟩ := id p'
      have lt := Heap.lt_size ho1
      refine pm_call_enumerate_tuple (show s1.heap.IsTuple a its.toArray from p') fun h' he hit hsz hk => wpAny_pyIter_enum he ?_
      have I2 : Inv X pins σ H1 { s1 with heap := h' } := I1.kept (t' := s1.toks) hk
      exact ⟨s1.heap.objs.size + 1, [s1.heap.objs.size + 1, s1.heap.objs.size], _, _, H1, rfl, I2, turn_enumT a (s1.heap.objs.size + 1) s1.heap.objs.size, ⟨⟨.none, he⟩, hit, Nat.succ_ne_self _, Nat.ne_of_lt lt, Nat.ne_of_lt (Nat.lt_succ_of_lt lt)⟩, fr, q⟩
end Pm
namespace Pm
open PySem PySem.Spec L2 PyProof.Rows

/-! ### walks over what lies in a cell -/
section
variable {K : PySem.W.Frag} {a b : Addr} {n : Nat}
theorem walkL : Walk (Itl K a) n (fun H => ∃ us, SqL K H a us ∧ us.length = n) (fun i H x H' => H' = H ∧ ∀ us, SqL K H a us → us[i]? = some x) :=
  ⟨fun i H hi ⟨us, q, e⟩ => ⟨us, us[i], q, by simp [e, hi]⟩, fun H ⟨us, q, e⟩ => ⟨us, q, by omega⟩, fun _ _ _ _ _ _ y => y⟩
theorem walkT : Walk (Itt K a) n (fun H => ∃ us, SqT K H a us ∧ us.length = n) (fun i H x H' => H' = H ∧ ∀ us, SqT K H a us → us[i]? = some x) :=
  ⟨fun i H hi ⟨us, q, e⟩ => ⟨us, us[i], q, by simp [e, hi]⟩, fun H ⟨us, q, e⟩ => ⟨us, q, by omega⟩, fun _ _ _ _ _ _ y => y⟩
theorem walkET : Walk (IteT K a) n (fun H => ∃ us, SqT K H a us ∧ us.length = n) (fun i H v H' => ∃ T x, v = .ref T ∧ H T = none ∧ H' = upd H T (.tup [.int (i : Nat), x]) ∧ ∀ us, SqT K H a us → us[i]? = some x) :=
  ⟨fun i H hi ⟨us, q, e⟩ => ⟨us, us[i], q, by simp [e, hi]⟩, fun H ⟨us, q, e⟩ => ⟨us, q, by omega⟩, fun _ _ _ _ _ _ y => y⟩
theorem walkV : Walk (Itv K a n) n (fun H => ∃ us, SqL K H a us ∧ us.length = n) (fun i H x H' => H' = H ∧ ∀ us, SqL K H a us → us[n - 1 - i]? = some x) :=
  ⟨fun i H hi ⟨us, q, e⟩ => ⟨hi, us, us[n - 1 - i]'(by omega), q, by simp [show n - 1 - i < us.length by omega]⟩, fun _ _ => Nat.le_refl _, fun _ _ _ _ _ _ y => y⟩
theorem walkVT : Walk (RT.ItvT K a n) n (fun H => ∃ us, SqT K H a us ∧ us.length = n) (fun i H x H' => H' = H ∧ ∀ us, SqT K H a us → us[n - 1 - i]? = some x) :=
  ⟨fun i H hi ⟨us, q, e⟩ => ⟨hi, us, us[n - 1 - i]'(by omega), q, by simp [show n - 1 - i < us.length by omega]⟩, fun _ _ => Nat.le_refl _, fun _ _ _ _ _ _ y => y⟩
theorem walkE : Walk (Ite K a) n (fun H => ∃ us, SqL K H a us ∧ us.length = n) (fun i H v H' => ∃ T x, v = .ref T ∧ H T = none ∧ H' = upd H T (.tup [.int (i : Nat), x]) ∧ ∀ us, SqL K H a us → us[i]? = some x) :=
  ⟨fun i H hi ⟨us, q, e⟩ => ⟨us, us[i], q, by simp [e, hi]⟩, fun H ⟨us, q, e⟩ => ⟨us, q, by omega⟩, fun _ _ _ _ _ _ y => y⟩
end
section
variable {c : Ck} {X : Cx} {W : WX} {pos p : Pos} {e e2 tg : Expr} {es : List Expr} {m : EM} {ms : AM}
/-- any list, tuple or text -/
def iAny (K : PySem.W.Frag) (te : TE) : TI := fun σ H R => te σ H fun x H1 => ∃ a, x = .ref a ∧ (((∃ xs, SqL K H1 a xs) ∧ R (Itl K a) H1) ∨ ((∃ xs, SqT K H1 a xs) ∧ R (Itt K a) H1))
theorem pi_any {te : TE} (he : PE X e te) : PI X tg e (iAny X.K te) := by
  refine ⟨fun pins s σ H R I h => thn (he.run pins s σ H _ I h) fun v s1 ⟨x, H1, I1, r1, a, ex, q⟩ => ?_⟩
  subst ex
  cases r1
  have fr : ∀ b ∈ [s1.heap.objs.size], FpOk X pins H1 b := fun b hb => by
    have eb : b = s1.heap.objs.size := by simpa using hb
    rw [eb]; exact I1.fpOk (Nat.le_refl _) (I1.hok.fresh (Nat.le_refl _))
  rcases q with ⟨⟨xs, hq⟩, q⟩ | ⟨⟨xs, hq⟩, q⟩
  · obtain ⟨its, rv, pl, hz⟩ := I1.list hq
    exact wpAny_pyIter_list pl.isList ⟨s1.heap.objs.size, [s1.heap.objs.size], _, _, H1, rfl, I1.kept (t' := s1.toks) fun b o z => Heap.get?_push_of_some _ z, turn_list a _, ⟨_, Heap.get?_push_size _ rfl, rfl, rfl⟩, fr, q⟩
  · obtain ⟨its, rv, pl, hz⟩ := I1.tuple hq
    exact wpAny_pyIter_tuple (show s1.heap.IsTuple a its.toArray from pl) ⟨s1.heap.objs.size, [s1.heap.objs.size], _, _, H1, rfl, I1.kept (t' := s1.toks) fun b o z => Heap.get?_push_of_some _ z, turn_tuple a _, ⟨_, Heap.get?_push_size _ rfl, rfl, rfl⟩, fr, q⟩

/-! ### loop sources -/
def ckOf (x : PV) (h : VH) : List (Nat × List PV) := match x with
  | .ref i => match h[i]? with
    | some (.lst xs) => [(i, xs)]
    | _ => []
  | _ => []
@[simp] theorem ckOf_tup (xs : List PV) (h : VH) : ckOf (.tup xs) h = [] := (rfl)
@[simp] theorem ckOf_lst (xs : List PV) (h : VH) : ckOf (.lst xs) h = [] := (rfl)
@[simp] theorem ckOf_scr (xs : List PV) (h : VH) : ckOf (.scr xs) h = [] := (rfl)
theorem ckOf_ref {i : Nat} {xs : List PV} {h : VH} (e : h[i]? = some (.lst xs)) : ckOf (.ref i) h = [(i, xs)] := by simp [ckOf, e]
@[simp] theorem ckOk_one (i : Nat) (xs : List PV) (h : VH) : ckOk [(i, xs)] h ↔ h[i]? = some (.lst xs) := by simp [ckOk]
/-- where a list was, it is still, with the same items -/
theorem keptL {K : Kc} {g0 g1 : Gh} {h0 h1 : VH} {H0 H1 : Hp} {x : PV} {u : V} {xs : List PV} (rx : Rep K g0 h0.length x u) (rh0 : RelH K g0 h0 H0) (e : lstOf x h0 = some xs) (l : g0.le0 h0.length g1) (hn : h0.length ≤ h1.length) (rh : RelH K g1 h1 H1) (ck : ckOk (ckOf x h0) h1) :
    lstOf x h1 = some xs ∧ Rep K g1 h1.length x u := by
  refine ⟨?_, rx.mono0 l hn⟩
  cases x with
  | lst ys => exact e
  | scr ys => exact e
  | ref i =>
    have e : (match h0[i]? with
      | some (PO.lst xs) => some xs
      | _ => none) = some xs := e
    split at e
    · rename_i ys e1
      cases e
      rw [ckOf_ref e1] at ck
      exact lstOf_ref (ck (i, _) (by simp))
    · cases e
  | _ => cases e
def srcSeq (x : PV) (h : VH) : Res Src := match x with
  | .tup xs => .ok ⟨xs, []⟩ h
  | x => match lstOf x h with
    | some xs => .ok ⟨xs, ckOf x h⟩ h
    | none => .bad
@[simp] theorem srcSeq_tup (xs : List PV) (h : VH) : srcSeq (.tup xs) h = .ok ⟨xs, []⟩ h := (rfl)
@[simp] theorem srcSeq_lst (xs : List PV) (h : VH) : srcSeq (.lst xs) h = .ok ⟨xs, []⟩ h := (rfl)
@[simp] theorem srcSeq_scr (xs : List PV) (h : VH) : srcSeq (.scr xs) h = .ok ⟨xs, []⟩ h := (rfl)
theorem srcSeq_ref {i : Nat} {xs : List PV} {h : VH} (e : h[i]? = some (.lst xs)) : srcSeq (.ref i) h = .ok ⟨xs, [(i, xs)]⟩ h := by simp [srcSeq, lstOf_ref e, ckOf_ref e]
theorem seq_src {K : Kc} {g : Gh} {h : VH} {H : Hp} {x : PV} {u : V} {R : It → Hp → Prop} {E : XK} (rx : Rep K g h.length x u) (rh : RelH K g h H) (q : Post K (SrcOk K) g h.length R E (srcSeq x h)) :
    ∃ a, u = .ref a ∧ (((∃ xs, SqL K.K H a xs) ∧ R (Itl K.K a) H) ∨ ((∃ xs, SqT K.K H a xs) ∧ R (Itt K.K a) H)) := by
  unfold srcSeq at q
  split at q
  · rename_i xs
    obtain ⟨a, us, rfl, s, r⟩ := tup_run rx rh
    refine ⟨a, rfl, .inr ⟨⟨us, .inl (.inl s)⟩, q.go rh ⟨_, _, walkT, fun g' h' H' l hn rh' _ => ?_, fun i y g' h' H' H2 l hn rh' _ hy u' hu => ?_⟩⟩⟩
    · obtain ⟨a', us', e, s', r'⟩ := tup_run (rx.mono0 l hn) rh'
      cases e
      exact ⟨us', .inl (.inl s'), r'.length⟩
    · obtain ⟨rfl, hu⟩ := hu
      obtain ⟨a', us', e, s', r'⟩ := tup_run (rx.mono0 l hn) rh'
      cases e
      obtain ⟨w, e1, r1⟩ := r'.get hy
      have := hu us' (.inl (.inl s'))
      rw [e1] at this
      cases this
      exact ⟨g', Gh.le.refl _ _, rh', r1⟩
  · split at q
    · rename_i xs e0
      obtain ⟨a, us, rfl, s, r⟩ := lstOf_run rx rh e0
      refine ⟨a, rfl, .inl ⟨⟨us, s⟩, q.go rh ⟨_, _, walkL, fun g' h' H' l hn rh' ck => ?_, fun i y g' h' H' H2 l hn rh' ck hy u' hu => ?_⟩⟩⟩
      · obtain ⟨e1, rx'⟩ := keptL rx rh e0 l hn rh' ck
        obtain ⟨a', us', e, s', r'⟩ := lstOf_run rx' rh' e1
        cases e
        exact ⟨us', s', r'.length⟩
      · obtain ⟨rfl, hu⟩ := hu
        obtain ⟨e1, rx'⟩ := keptL rx rh e0 l hn rh' ck
        obtain ⟨a', us', e, s', r'⟩ := lstOf_run rx' rh' e1
        cases e
        obtain ⟨w, e2, r1⟩ := r'.get hy
        have := hu us' s'
        rw [e2] at this
        cases this
        exact ⟨g', Gh.le.refl _ _, rh', r1⟩
    · exact q.elim
def iSeq (m : EM) : LS → VH → Res Src := fun σ h => (m σ h).bind srcSeq
theorem SI.seq (he : SE c X W e m) : SI c X W tg e (iSeq m) := by
  obtain ⟨t, pe, s⟩ := he
  refine ⟨_, pi_any pe, fun g σ h τ H R rs rh q => ?_⟩
  exact s g σ h τ H _ rs rh ((Post.bind q).imp (fun u H1 ⟨g1, x, h1, m1, q1⟩ => seq_src m1.rep m1.rel q1) fun _ _ _ z => z)
/-- numbers from lo on -/
def rngL (lo : Int) (n : Nat) : List PV := (List.range n).map fun i => PV.int (lo + (i : Nat))
@[simp] theorem rngL_length (lo : Int) (n : Nat) : (rngL lo n).length = n := by simp [rngL]
def srcRng : List PV → VH → Res Src
  | [.int j], h => if -(2 ^ 62) ≤ j ∧ j < 2 ^ 62 then .ok ⟨rngL 0 j.toNat, []⟩ h else .bad
  | [.int i, .int j], h => if -(2 ^ 62) ≤ i ∧ i < 2 ^ 62 ∧ -(2 ^ 62) ≤ j ∧ j < 2 ^ 62 then .ok ⟨rngL i (j - i).toNat, []⟩ h else .bad
  | _, _ => .bad
theorem srcRng1 {j : Int} {h : VH} (z : -(2 ^ 62) ≤ j ∧ j < 2 ^ 62) : srcRng [.int j] h = .ok ⟨rngL 0 j.toNat, []⟩ h := if_pos z
theorem srcRng2 {i j : Int} {h : VH} (z : -(2 ^ 62) ≤ i ∧ i < 2 ^ 62 ∧ -(2 ^ 62) ≤ j ∧ j < 2 ^ 62) : srcRng [.int i, .int j] h = .ok ⟨rngL i (j - i).toNat, []⟩ h := if_pos z
theorem rng_ok {K : Kc} {g : Gh} {h : VH} {lo : Int} {n : Nat} : SrcOk K g h.length ⟨rngL lo n, []⟩ (Itr lo n) := by
  refine ⟨_, _, by rw [rngL_length]; exact walk_range, fun _ _ _ _ _ _ _ => trivial, fun i x g' h' H' H2 l hn rh' _ hx u hu => ?_⟩
  obtain ⟨rfl, rfl⟩ := hu
  refine ⟨g', Gh.le.refl _ _, rh', ?_⟩
  have hx : (rngL lo n)[i]? = some x := hx
  simp only [rngL, List.getElem?_map] at hx
  by_cases hi : i < n
  · rw [List.getElem?_range hi] at hx
    cases hx
    exact repI
  · rw [List.getElem?_eq_none (by simpa using hi)] at hx
    cases hx
def iRng (ms : AM) : LS → VH → Res Src := fun σ h => (ms σ h).bind srcRng
theorem SI.range1 (hg : Gl X "range") (hm : X.mg "range" = none) (ha : SA c X W [e] ms) (hs : starEach [e] X.env = [(false, eval e X.env)] := by rfl) : SI c X W tg (.Call (.Name "range" p) [e] [] pos) (iRng ms) := by
  obtain ⟨la, t, pa, s⟩ := ha
  refine ⟨_, pi_range1 hg hm pa hs, fun g σ h τ H R rs rh q => s g σ h τ H _ rs rh ?_⟩
  have ln := fun xs h' => la σ h xs h'
  dsimp only [iRng] at q
  generalize ms σ h = res at q ln
  cases res with
  | ok xs h' =>
    intro g1 us H1 l hn rh1 ru
    have q1 := Post.up q l hn
    have l1 := ln xs h' rfl
    rw [Res.bind_ok] at q1
    unfold srcRng at q1
    split at q1
    · split at q1
      · rename_i hz
        obtain ⟨u, rfl, r1⟩ := ru.one
        simp only [Rep] at r1
        exact ⟨_, by rw [r1], hz.1, hz.2, Post.go (E := at_ W τ) q1 rh1 rng_ok⟩
      · exact q1.elim
    · simp at l1
    · exact q1.elim
  | exc e' h' => exact q
  | bad => exact q
theorem SI.range2 (hg : Gl X "range") (hm : X.mg "range" = none) (ha : SA c X W [e, e2] ms) (hs : starEach [e, e2] X.env = [(false, eval e X.env), (false, eval e2 X.env)] := by rfl) (hs2 : starEach [e2] X.env = [(false, eval e2 X.env)] := by rfl) : SI c X W tg (.Call (.Name "range" p) [e, e2] [] pos) (iRng ms) := by
  obtain ⟨la, t, pa, s⟩ := ha
  refine ⟨_, pi_range2 hg hm pa hs hs2, fun g σ h τ H R rs rh q => s g σ h τ H _ rs rh ?_⟩
  have ln := fun xs h' => la σ h xs h'
  dsimp only [iRng] at q
  generalize ms σ h = res at q ln
  cases res with
  | ok xs h' =>
    intro g1 us H1 l hn rh1 ru
    have q1 := Post.up q l hn
    have l1 := ln xs h' rfl
    rw [Res.bind_ok] at q1
    unfold srcRng at q1
    split at q1
    · simp at l1
    · split at q1
      · rename_i hz
        obtain ⟨u, v, rfl, r1, r2⟩ := ru.two
        simp only [Rep] at r1 r2
        exact ⟨_, _, by rw [r1, r2], hz, Post.go (E := at_ W τ) q1 rh1 rng_ok⟩
      · exact q1.elim
    · exact q1.elim
  | exc e' h' => exact q
  | bad => exact q
/-- numbers with a step -/
def stepI (lo k : Int) (n : Nat) : List PV := (List.range n).map fun i => PV.int (lo + (i : Nat) * k)
@[simp] theorem stepI_length (lo k : Int) (n : Nat) : (stepI lo k n).length = n := by simp [stepI]
/-- enumerate -/
def enumL (xs : List PV) : List PV := xs.mapIdx fun i x => PV.tup [.int (i : Nat), x]
@[simp] theorem enumL_length (xs : List PV) : (enumL xs).length = xs.length := by simp [enumL]
def srcEnum : List PV → VH → Res Src
  | [.tup xs], h => .ok ⟨enumL xs, []⟩ h
  | [x], h => match lstOf x h with
    | some xs => .ok ⟨enumL xs, ckOf x h⟩ h
    | none => .bad
  | _, _ => .bad
@[simp] theorem srcEnum_lst (xs : List PV) (h : VH) : srcEnum [.lst xs] h = .ok ⟨enumL xs, []⟩ h := (rfl)
theorem srcEnum_ref {i : Nat} {xs : List PV} {h : VH} (e : h[i]? = some (.lst xs)) : srcEnum [.ref i] h = .ok ⟨enumL xs, [(i, xs)]⟩ h := by simp [srcEnum, lstOf_ref e, ckOf_ref e]
def iEnm (ms : AM) : LS → VH → Res Src := fun σ h => (ms σ h).bind srcEnum
theorem SI.enum {elts : List Expr} {kk : Nat} {tpos : Pos} (hg : Gl X "enumerate") (hm : X.mg "enumerate" = none) (ha : SA c X W [e] ms) (hs : starEach [e] X.env = [(false, eval e X.env)] := by rfl) : SI c X W (.Tuple elts kk tpos) (.Call (.Name "enumerate" p) [e] [] pos) (iEnm ms) := by
  obtain ⟨la, t, pa, s⟩ := ha
  refine ⟨_, pi_enumA hg hm pa hs, fun g σ h τ H R rs rh q => s g σ h τ H _ rs rh ((Post.bind q).imp (fun us H1 ⟨g1, xs, h1, m1, q1⟩ => ?_) fun _ _ _ z => z)⟩
  unfold srcEnum at q1
  split at q1
  · rename_i ys
    obtain ⟨u, rfl, rx⟩ := m1.rep.one
    obtain ⟨a, us, rfl, s, r⟩ := tup_run rx m1.rel
    refine ⟨a, us, rfl, .inr ⟨.inl (.inl s), q1.go m1.rel ⟨_, _, by rw [enumL_length]; exact walkET, fun g' h' H' l hn rh' ck => ?_, fun i y g' h' H' H2 l hn rh' ck hy u' hu => ?_⟩⟩⟩
    · obtain ⟨a', us', e, s', r'⟩ := tup_run (rx.mono0 l hn) rh'
      cases e
      exact ⟨us', .inl (.inl s'), r'.length⟩
    · obtain ⟨T, x, rfl, nT, rfl, hu⟩ := hu
      obtain ⟨a', us', e, s', r'⟩ := tup_run (rx.mono0 l hn) rh'
      cases e
      have hy : (enumL ys)[i]? = some y := hy
      unfold enumL at hy
      rw [List.getElem?_mapIdx] at hy
      obtain ⟨z, hz, rfl⟩ := Option.map_eq_some_iff.mp hy
      obtain ⟨w, e2, r1⟩ := r'.get hz
      have := hu us' (.inl (.inl s'))
      rw [e2] at this
      cases this
      obtain ⟨le, rh2⟩ := RelH.frz (o := .tup [.int (i : Nat), x]) rh' nT
      refine ⟨_, le, rh2, ?_⟩
      simp only [Rep]
      exact ⟨T, _, rfl, upd_same, Reps.cons repI (Reps.cons (r1.mono le (Nat.le_refl _)) Reps.nil)⟩
  · obtain ⟨u, rfl, rx⟩ := m1.rep.one
    split at q1
    · rename_i ys e0
      obtain ⟨a, us, rfl, s, r⟩ := lstOf_run rx m1.rel e0
      refine ⟨a, us, rfl, .inl ⟨s, q1.go m1.rel ⟨_, _, by rw [enumL_length]; exact walkE, fun g' h' H' l hn rh' ck => ?_, fun i y g' h' H' H2 l hn rh' ck hy u' hu => ?_⟩⟩⟩
      · obtain ⟨e1, rx'⟩ := keptL rx m1.rel e0 l hn rh' ck
        obtain ⟨a', us', e, s', r'⟩ := lstOf_run rx' rh' e1
        cases e
        exact ⟨us', s', r'.length⟩
      · obtain ⟨T, x, rfl, nT, rfl, hu⟩ := hu
        obtain ⟨e1, rx'⟩ := keptL rx m1.rel e0 l hn rh' ck
        obtain ⟨a', us', e, s', r'⟩ := lstOf_run rx' rh' e1
        cases e
        have hy : (enumL ys)[i]? = some y := hy
        unfold enumL at hy
        rw [List.getElem?_mapIdx] at hy
        obtain ⟨z, hz, rfl⟩ := Option.map_eq_some_iff.mp hy
        obtain ⟨w, e2, r1⟩ := r'.get hz
        have := hu us' s'
        rw [e2] at this
        cases this
        obtain ⟨le, rh2⟩ := RelH.frz (o := .tup [.int (i : Nat), x]) rh' nT
        refine ⟨_, le, rh2, ?_⟩
        simp only [Rep]
        exact ⟨T, _, rfl, upd_same, Reps.cons repI (Reps.cons (r1.mono le (Nat.le_refl _)) Reps.nil)⟩
    · exact q1.elim
  · exact q1.elim
@[simp] theorem srcEnum_tup (xs : List PV) (h : VH) : srcEnum [.tup xs] h = .ok ⟨enumL xs, []⟩ h := (rfl)
/-- reversed -/
def srcRev (x : PV) (h : VH) : Res Src := match x with
  | .tup xs => .ok ⟨xs.reverse, []⟩ h
  | x => match lstOf x h with
    | some xs => .ok ⟨xs.reverse, ckOf x h⟩ h
    | none => .bad
@[simp] theorem srcRev_tup (xs : List PV) (h : VH) : srcRev (.tup xs) h = .ok ⟨xs.reverse, []⟩ h := (rfl)
@[simp] theorem srcRev_lst (xs : List PV) (h : VH) : srcRev (.lst xs) h = .ok ⟨xs.reverse, []⟩ h := (rfl)
theorem rev_at {α : Type} {xs : List α} {i : Nat} {y : α} (hy : xs.reverse[i]? = some y) : xs[xs.length - 1 - i]? = some y := by
  have hi : i < xs.reverse.length := (List.getElem?_eq_some_iff.mp hy).1
  rw [List.length_reverse] at hi
  rwa [List.getElem?_reverse hi] at hy
def iRvs (m : EM) : LS → VH → Res Src := fun σ h => (m σ h).bind srcRev
theorem SI.rev (hg : Gl X "reversed") (hm : X.mg "reversed" = none) (he : SE c X W e m) (hs : starEach [e] X.env = (false, eval e X.env) :: starEach [] X.env := by rfl) : SI c X W tg (.Call (.Name "reversed" p) [e] [] pos) (iRvs m) := by
  obtain ⟨t, pe, s⟩ := he
  refine ⟨_, RT.pi_revA hg hm pe hs, fun g σ h τ H R rs rh q => s g σ h τ H _ rs rh ((Post.bind q).imp (fun u H1 ⟨g1, x, h1, m1, q1⟩ => ?_) fun _ _ _ z => z)⟩
  have rx := m1.rep
  unfold srcRev at q1
  split at q1
  · obtain ⟨a, us, rfl, s, r⟩ := tup_run rx m1.rel
    refine ⟨a, us, rfl, .inr ⟨.inl (.inl s), q1.go m1.rel ⟨_, _, by rw [List.length_reverse, r.length]; exact walkVT, fun g' h' H' l hn rh' _ => ?_, fun i y g' h' H' H2 l hn rh' _ hy u' hu => ?_⟩⟩⟩
    · obtain ⟨a', us', e, s', r'⟩ := tup_run (rx.mono0 l hn) rh'
      cases e
      exact ⟨us', .inl (.inl s'), r'.length⟩
    · obtain ⟨rfl, hu⟩ := hu
      obtain ⟨a', us', e, s', r'⟩ := tup_run (rx.mono0 l hn) rh'
      cases e
      obtain ⟨w, e1, r1⟩ := r'.get (rev_at hy)
      have := hu us' (.inl (.inl s'))
      rw [e1] at this
      cases this
      exact ⟨g', Gh.le.refl _ _, rh', r1⟩
  · split at q1
    · rename_i xs e0
      obtain ⟨a, us, rfl, s, r⟩ := lstOf_run rx m1.rel e0
      refine ⟨a, us, rfl, .inl ⟨s, q1.go m1.rel ⟨_, _, by rw [List.length_reverse, r.length]; exact walkV, fun g' h' H' l hn rh' ck => ?_, fun i y g' h' H' H2 l hn rh' ck hy u' hu => ?_⟩⟩⟩
      · obtain ⟨e1, rx'⟩ := keptL rx m1.rel e0 l hn rh' ck
        obtain ⟨a', us', e, s', r'⟩ := lstOf_run rx' rh' e1
        cases e
        exact ⟨us', s', r'.length⟩
      · obtain ⟨rfl, hu⟩ := hu
        obtain ⟨e1, rx'⟩ := keptL rx m1.rel e0 l hn rh' ck
        obtain ⟨a', us', e, s', r'⟩ := lstOf_run rx' rh' e1
        cases e
        obtain ⟨w, e2, r1⟩ := r'.get (rev_at hy)
        have := hu us' s'
        rw [e2] at this
        cases this
        exact ⟨g', Gh.le.refl _ _, rh', r1⟩
    · exact q1.elim
end
end Pm
namespace Pm
open PySem PySem.Spec L2 PyProof.Rows

/-! ### list comprehensions -/
def wipeL (σ : LS) : List Nat → LS
  | [] => σ
  | v :: vs => (wipeL σ vs).set v none
theorem RelS.wipe {K : Kc} {g : Gh} {n : Nat} {σ : LS} {τ : L2.St} (r : RelS K g n σ τ) : ∀ vs : List Nat, RelS K g n (wipeL σ vs) (L2.wipe τ vs)
  | [] => r
  | v :: vs => (RelS.wipe r vs).forget v
theorem wipe_set {τ : L2.St} {i : Nat} {u : Option V} : ∀ {vs : List Nat}, i ∈ vs → L2.wipe (τ.set i u) vs = L2.wipe τ vs
  | [], h => by cases h
  | v :: vs, h => by
    show (L2.wipe (τ.set i u) vs).set v none = (L2.wipe τ vs).set v none
    by_cases hm : i ∈ vs
    · rw [wipe_set hm]
    · have hv : i = v := (List.mem_cons.mp h).resolve_right hm
      subst hv
      have gen : ∀ (ws : List Nat), i ∉ ws → L2.wipe (τ.set i u) ws = (L2.wipe τ ws).set i u := by
        intro ws
        induction ws with
        | nil => intro _; rfl
        | cons w ws ih =>
          intro hw
          rw [List.mem_cons, not_or] at hw
          show (L2.wipe (τ.set i u) ws).set w none = ((L2.wipe τ ws).set w none).set i u
          rw [ih hw.2, List.set_comm _ _ hw.1]
      rw [gen vs hm, List.set_set]
/-- a target that touches the slots ws alone -/
abbrev RepW (K : Kc) (ws : List Nat) (τ : L2.St) : Gh → Nat → LS → L2.St → Prop := fun g n σ' τ' => RelS K g n σ' τ' ∧ L2.wipe τ' ws = L2.wipe τ ws
def SGw (c : Ck) (X : Cx) (e : Expr) (m : GM) (ws : List Nat) : Prop := ∃ t, PG X e t ∧ ∀ g σ h τ H v u N, RelS (kx c X) g h.length σ τ → RelH (kx c X) g h H → Rep (kx c X) g h.length v u → Post (kx c X) (RepW (kx c X) ws τ) g h.length N noX (m v σ h) → t u τ H N
def SGsw (c : Ck) (X : Cx) (es : List Expr) (m : GMs) (ws : List Nat) : Prop := ∃ t, PGs X es t ∧ ∀ g σ h τ H vs us N, RelS (kx c X) g h.length σ τ → RelH (kx c X) g h H → Reps (kx c X) g h.length vs us → Post (kx c X) (RepW (kx c X) ws τ) g h.length N noX (m vs σ h) → t us τ H N
section
variable {c : Ck} {X : Cx} {W : WX} {pos : Pos} {ws : List Nat}
theorem SGw.name {i : Nat} {x : Str} (hN : X.N.Nodup) (hi : X.N[i]? = some x) (hx : Loc X.env.scope x) (hw : i ∈ ws) (hf : X.fn x = true ∨ X.env.scope.names.lookup x = some .local := by first | exact .inl rfl | exact .inr rfl | assumption) : SGw c X (.Name x pos) (gSlot i) ws :=
  ⟨_, pg_name hN hi hx hf, fun g σ h τ H v u N rs rh rv q => q g _ H (Gh.le.refl _ _) (Nat.le_refl _) rh ⟨rs.set i rv, wipe_set hw⟩⟩
theorem SGsw.nil : SGsw c X [] gNil' ws := by
  refine ⟨_, pgs_nil, fun g σ h τ H vs us N rs rh rv q => ?_⟩
  cases vs with
  | nil =>
    simp only [Reps] at rv
    exact ⟨rv, q g τ H (Gh.le.refl _ _) (Nat.le_refl _) rh ⟨rs, rfl⟩⟩
  | cons v r => exact q.elim
theorem SGsw.cons {e : Expr} {es : List Expr} {m : GM} {ms : GMs} (h1 : SGw c X e m ws) (h2 : SGsw c X es ms ws) (hs : (assignEach (e :: es) X.env).map (·.2) = assign e X.env :: (assignEach es X.env).map (·.2) := by rfl) : SGsw c X (e :: es) (gCons' m ms) ws := by
  obtain ⟨t, p, s⟩ := h1
  obtain ⟨t2, p2, s2⟩ := h2
  refine ⟨_, pgs_cons p p2 hs, fun g σ h τ H vs us N rs rh rv q => ?_⟩
  cases vs with
  | nil => exact q.elim
  | cons v r =>
    simp only [Reps] at rv
    obtain ⟨u, us', rfl, r1, r2⟩ := rv
    refine ⟨u, us', rfl, ?_⟩
    refine s g σ h τ H v u _ rs rh r1 ((Post.bind (R := RepW (kx c X) ws τ) q).imp (fun τ1 H1 ⟨g1, σ1, h1, m1, q1⟩ => ?_) fun _ _ _ z => z)
    obtain ⟨rs1, ew⟩ := m1.rep
    refine s2 g1 σ1 h1 τ1 H1 r us' N rs1 m1.rel (r2.mono m1.le m1.len) ?_
    rw [show RepW (kx c X) ws τ1 = RepW (kx c X) ws τ by unfold RepW; rw [ew]]
    exact q1
theorem SGw.tup {es : List Expr} {k : Nat} {ms : GMs} {n : Nat} (hc : X.calm = true) (hs : SGsw c X es ms ws) (hn : (assignEach es X.env).length = n := by rfl) (hst : (assignEach es X.env).findIdx? (·.1) = none := by rfl) : SGw c X (.Tuple es k pos) (gTupM n ms) ws := by
  obtain ⟨t, p, s⟩ := hs
  refine ⟨_, pg_tup hc p hn hst, fun g σ h τ H v u N rs rh rv q => ?_⟩
  cases v with
  | tup xs =>
    simp only [Rep] at rv
    obtain ⟨a, us, rfl, sq, rr⟩ := rv
    rw [gTupM_tup] at q
    split at q
    · rename_i e
      exact ⟨a, us, rfl, .inl (.inl (rh.same _ _ sq)), rr.length.trans e, s g σ h τ H xs us N rs rh rr q⟩
    · exact q.elim
  | _ => exact q.elim
/-- the tests of a comprehension -/
def STs (c : Ck) (X : Cx) (W : WX) (es : List Expr) (m : TM) : Prop := ∃ t, PTs X es t ∧ ∀ g σ h τ H Q, RelS (kx c X) g h.length σ τ → RelH (kx c X) g h H → Post (kx c X) RepB g h.length Q (at_ W τ) (m σ h) → t τ H Q
def tYesM : TM := fun _ h => .ok true h
theorem STs.nil : STs c X W [] tYesM := ⟨_, pts_nil, fun g σ h τ H Q rs rh q => q g true H (Gh.le.refl _ _) (Nat.le_refl _) rh rfl⟩
theorem STs.one {e : Expr} {m : TM} (h : ST c X W e m) : STs c X W [e] m := by
  obtain ⟨t, p, s⟩ := h
  exact ⟨t, pts_one p, s⟩
end
/-- nothing may be raised -/
abbrev W0 : WX := fun _ _ _ _ => False
/-- what a model asks for, as a reading -/
def teOf (K : Kc) (m : EM) : TE := fun τ H Q => ∃ g σ h, RelS K g h.length σ τ ∧ RelH K g h H ∧ Post K (Rep K) g h.length Q (at_ W0 τ) (m σ h)
def ttOf (K : Kc) (m : TM) : TT := fun τ H Q => ∃ g σ h, RelS K g h.length σ τ ∧ RelH K g h H ∧ Post K RepB g h.length Q (at_ W0 τ) (m σ h)
def tgOf (K : Kc) (m : GM) (ws : List Nat) : TG := fun u τ H N => ∃ g σ h v, RelS K g h.length σ τ ∧ RelH K g h H ∧ Rep K g h.length v u ∧ Post K (RepW K ws τ) g h.length N noX (m v σ h)
section
variable {c : Ck} {X : Cx} {ws : List Nat} {e : Expr} {es : List Expr}
theorem SE.pe {m : EM} (h : SE c X W0 e m) : PE X e (teOf (kx c X) m) := by
  obtain ⟨t, p, s⟩ := h
  exact ⟨fun pins st τ H Q I ⟨g, σ, h, rs, rh, q⟩ => p.run pins st τ H Q I (s g σ h τ H Q rs rh q)⟩
theorem STs.pts {m : TM} (h : STs c X W0 es m) : PTs X es (ttOf (kx c X) m) := by
  obtain ⟨t, p, s⟩ := h
  exact ⟨fun pins st τ H Q I ⟨g, σ, h, rs, rh, q⟩ => p.run pins st τ H Q I (s g σ h τ H Q rs rh q)⟩
theorem SGw.pg {m : GM} (h : SGw c X e m ws) : PG X e (tgOf (kx c X) m ws) := by
  obtain ⟨t, p, s⟩ := h
  exact ⟨fun pins st τ H v u N I rv ⟨g, σ, h, v', rs, rh, rr, q⟩ => p.run pins st τ H v u N I rv (s g σ h τ H v' v N rs rh rr q)⟩
end
/-- no exception -/
def Res.nx {α : Type} : Res α → Res α
  | .exc _ _ => .bad
  | r => r
@[simp] theorem Res.nx_ok {α : Type} (a : α) (h : VH) : (Res.ok a h).nx = .ok a h := (rfl)
@[simp] theorem Res.nx_exc {α : Type} (a : PX) (h : VH) : (Res.exc a h : Res α).nx = .bad := (rfl)
@[simp] theorem Res.nx_bad {α : Type} : (Res.bad : Res α).nx = .bad := (rfl)
theorem Post.nx {α β : Type} {K : Kc} {R : Gh → Nat → α → β → Prop} {g : Gh} {n : Nat} {Q : β → Hp → Prop} {E E' : XK} {r : Res α} (p : Post K R g n Q E r.nx) : Post K R g n Q E' r := by
  cases r with
  | ok a h => exact p
  | exc e h => exact p.elim
  | bad => exact p
open Classical in
noncomputable def compL (ck : List (Nat × List PV)) (ws : List Nat) (gm : GM) (mt : TM) (me : EM) (σ : LS) : List PV → List PV → VH → Res (List PV)
  | [], acc, h => if ckOk ck h then .ok acc h else .bad
  | x :: xs, acc, h => if ckOk ck h then ((gm x (wipeL σ ws) h).nx).bind fun σ2 h2 => ((mt σ2 h2).nx).bind fun b h3 =>
      if b = true then ((me σ2 h3).nx).bind fun y h4 => if acc.length < 16777216 then compL ck ws gm mt me σ xs (acc ++ [y]) h4 else .bad
      else compL ck ws gm mt me σ xs acc h3
    else .bad
noncomputable def eLc (cell : Bool) (ms : LS → VH → Res Src) (ws : List Nat) (gm : GM) (mt : TM) (me : EM) : EM := fun σ h => (ms σ h).bind fun s h1 => (compL s.ck ws gm mt me σ s.xs [] h1).bind fun acc h2 => mkL cell acc h2

/-- g, the list at D watched -/
def Gh.wat (g : Gh) (D : Addr) (us : List V) : Gh := { g with pr := fun a => if a = D then some (.lst us) else g.pr a }
theorem Gh.wat_le0 (g : Gh) (n : Nat) (D : Addr) (us : List V) : g.le0 n (g.wat D us) := ⟨Same.refl _, fun _ _ => rfl⟩
theorem Gh.le0_wat {g g' : Gh} {n : Nat} {D : Addr} {us : List V} (l : g.le0 n g') : g.le0 n (g'.wat D us) := ⟨l.same, l.rho⟩
theorem RelH.watch {K : Kc} {g : Gh} {h : VH} {H : Hp} {D : Addr} {us : List V} (r : RelH K g h H) (nD : H D = none) : RelH K (g.wat D us) h (upd H D (.lst us)) := by
  refine ⟨fun b w e => ?_, fun i q e d => ?_, fun i q e d => r.sep i q e d, r.inj, fun b w e => ?_, fun a2 dd e2 z => let ⟨gs, e3, e4⟩ := r.ex a2 dd e2 z; ⟨gs, e3, e4.mono0 (g.wat_le0 _ D us) (Nat.le_refl _)⟩⟩
  · have := r.same b w e
    rw [upd_ne (ne_of_none this nD)]; exact this
  · obtain ⟨u, hu, ru⟩ := r.cell i q e d
    exact ⟨u, by show upd H D (.lst us) (g.ρ i) = _; rw [upd_ne (ne_of_none hu nD)]; exact hu, ru.mono0 (g.wat_le0 _ D us) (Nat.le_refl _)⟩
  · have e : (if b = D then some (HO.lst us) else g.pr b) = some w := e
    by_cases hb : b = D
    · subst hb
      rw [if_pos rfl] at e
      cases e
      refine ⟨upd_same, r.same.free nD, fun i p e' d z => ?_⟩
      obtain ⟨u, hu, _⟩ := r.cell i p e' d
      have z : g.ρ i = b := z
      rw [z, nD] at hu; cases hu
    · rw [if_neg hb] at e
      obtain ⟨h1, h2, h3⟩ := r.fr b w e
      exact ⟨by rw [upd_ne hb]; exact h1, h2, h3⟩
/-- the watched list written anew -/
theorem RelH.rewatch {K : Kc} {g : Gh} {h : VH} {H : Hp} {D : Addr} {us vs : List V} (r : RelH K g h H) (w : g.pr D = some (.lst us)) : RelH K (g.wat D vs) h (upd H D (.lst vs)) := by
  obtain ⟨hD, fD, cD⟩ := r.fr D _ w
  refine ⟨fun b w e => ?_, fun i q e d => ?_, fun i q e d => r.sep i q e d, r.inj, fun b w e => ?_, fun a2 dd e2 z => let ⟨gs, e3, e4⟩ := r.ex a2 dd e2 z; ⟨gs, e3, e4.mono0 (g.wat_le0 _ D vs) (Nat.le_refl _)⟩⟩
  · have nb : b ≠ D := fun z => by
      have e : g.Hf b = some w := e
      rw [z, fD] at e; cases e
    rw [upd_ne nb]; exact r.same b w e
  · obtain ⟨u, hu, ru⟩ := r.cell i q e d
    exact ⟨u, by show upd H D (.lst vs) (g.ρ i) = _; rw [upd_ne (cD i q e d)]; exact hu, ru.mono0 (g.wat_le0 _ D vs) (Nat.le_refl _)⟩
  · have e : (if b = D then some (HO.lst vs) else g.pr b) = some w := e
    by_cases hb : b = D
    · subst hb
      rw [if_pos rfl] at e
      cases e
      exact ⟨upd_same, fD, cD⟩
    · rw [if_neg hb] at e
      obtain ⟨h1, h2, h3⟩ := r.fr b w e
      exact ⟨by rw [upd_ne hb]; exact h1, h2, h3⟩
/-- the watched list let go: it is nobody's, then a new thing at D -/
theorem mkL_at {K : Kc} {g g0 : Gh} {h : VH} {H : Hp} {D : Addr} {cell : Bool} {xs : List PV} {us : List V} {Q : VK} {E : XK} {n : Nat} (rh : RelH K g h H) (w : g.pr D = some (.lst us)) (r : Reps K g h.length xs us)
    (l : g0.le0 n g) (hn : n ≤ h.length) (np : ∀ a, a ≠ D → g.pr a = g0.pr a) (n0 : g0.pr D = none) (p : Post K (Rep K) g0 n Q E (mkL cell xs h)) : Q (.ref D) H := by
  obtain ⟨hD, fD, cD⟩ := rh.fr D _ w
  have pe : ∀ a o, g0.pr a = some o → a ≠ D ∧ g.pr a = some o := fun a o e => by
    have : a ≠ D := fun z => by rw [z, n0] at e; cases e
    exact ⟨this, (np a this).trans e⟩
  cases cell with
  | false =>
    let g2 : Gh := { g with Hf := upd g.Hf D (.lst us), pr := g0.pr }
    have le2 : g.le0 h.length g2 := ⟨fun b w e => (upd_ne (ne_of_none e fD)).trans e, fun _ _ => rfl⟩
    have rh2 : RelH K g2 h H := by
      refine ⟨fun b w e => ?_, fun i q e d => ?_, fun i q e d => ?_, rh.inj, fun b w e => ?_, fun a2 dd e2 z => let ⟨gs, e3, e4⟩ := rh.ex a2 dd e2 z; ⟨gs, le2.same _ _ e3, e4.mono0 le2 (Nat.le_refl _)⟩⟩
      · have e : upd g.Hf D (.lst us) b = some w := e
        by_cases hb : b = D
        · subst hb; rw [upd_same] at e; cases e; exact hD
        · rw [upd_ne hb] at e; exact rh.same _ _ e
      · obtain ⟨u, hu, ru⟩ := rh.cell i q e d
        exact ⟨u, hu, ru.mono0 le2 (Nat.le_refl _)⟩
      · show upd g.Hf D (.lst us) (g.ρ i) = none
        rw [upd_ne (cD i q e d)]; exact rh.sep i q e d
      · obtain ⟨nb, e'⟩ := pe b w e
        obtain ⟨h1, h2, h3⟩ := rh.fr b w e'
        exact ⟨h1, by show upd g.Hf D (.lst us) b = none; rw [upd_ne nb]; exact h2, h3⟩
    refine p g2 _ H ⟨(l.trans le2 hn).same, (l.trans le2 hn).rho, rfl⟩ hn rh2 ?_
    simp only [Rep]
    exact ⟨D, us, rfl, upd_same, r.mono0 le2 (Nat.le_refl _)⟩
  | true =>
    let g2 : Gh := { g with ρ := fun i => if i = h.length then D else g.ρ i, pr := g0.pr }
    have le2 : g.le0 h.length g2 := ⟨Same.refl _, fun i hi => if_neg (Nat.ne_of_lt hi)⟩
    have ρe : ∀ {i}, i < h.length → (if i = h.length then D else g.ρ i) = g.ρ i := fun hi => if_neg (Nat.ne_of_lt hi)
    have old : ∀ {i p}, (h ++ [PO.lst xs])[i]? = some p → (i < h.length ∧ h[i]? = some p) ∨ (i = h.length ∧ p = PO.lst xs) := fun {i p} e => by
      by_cases hi : i < h.length
      · rw [List.getElem?_append_left hi] at e; exact .inl ⟨hi, e⟩
      · rw [List.getElem?_append_right (by omega)] at e
        have : i - h.length = 0 := by
          cases q : i - h.length with
          | zero => rfl
          | succ k => rw [q] at e; simp at e
        rw [this] at e
        exact .inr ⟨by omega, by simpa using e.symm⟩
    have rh2 : RelH K g2 (h ++ [.lst xs]) H := by
      refine ⟨rh.same, fun i q e d => ?_, fun i q e d => ?_, fun i j q1 q2 e d e' d' z => ?_, fun b w e => ?_, fun a2 dd e2 z => let ⟨gs, e3, e4⟩ := rh.ex a2 dd e2 z; ⟨gs, e3, by rw [List.length_append]; exact e4.mono0 le2 (Nat.le_add_right _ _)⟩⟩
      · rcases old e with ⟨hi, e⟩ | ⟨rfl, rfl⟩
        · obtain ⟨u, hu, ru⟩ := rh.cell i q e d
          refine ⟨u, by show H (if i = h.length then D else g.ρ i) = _; rw [ρe hi]; exact hu, ?_⟩
          rw [List.length_append]; exact ru.mono0 le2 (Nat.le_add_right _ _)
        · refine ⟨.lst us, by show H (if h.length = h.length then D else _) = _; rw [if_pos rfl]; exact hD, us, rfl, ?_⟩
          rw [List.length_append]; exact r.mono0 le2 (Nat.le_add_right _ _)
      · show g.Hf (if i = h.length then D else g.ρ i) = none
        rcases old e with ⟨hi, e⟩ | ⟨rfl, rfl⟩
        · rw [ρe hi]; exact rh.sep i q e d
        · rw [if_pos rfl]; exact fD
      · have z : (if i = h.length then D else g.ρ i) = (if j = h.length then D else g.ρ j) := z
        rcases old e with ⟨hi, e1⟩ | ⟨ei, eo⟩
        · rcases old e' with ⟨hj, e2⟩ | ⟨ej, eo'⟩
          · rw [ρe hi, ρe hj] at z; exact rh.inj i j q1 q2 e1 d e2 d' z
          · rw [ρe hi, if_pos ej] at z; exact absurd z (cD i q1 e1 d)
        · rcases old e' with ⟨hj, e2⟩ | ⟨ej, eo'⟩
          · rw [ρe hj, if_pos ei] at z; exact absurd z.symm (cD j q2 e2 d')
          · rw [ei, ej]
      · obtain ⟨nb, e'⟩ := pe b w e
        obtain ⟨h1, h2, h3⟩ := rh.fr b w e'
        refine ⟨h1, h2, fun i p e2 d => ?_⟩
        show (if i = h.length then D else g.ρ i) ≠ b
        rcases old e2 with ⟨hi, e2⟩ | ⟨ei, eo⟩
        · rw [ρe hi]; exact h3 i p e2 d
        · rw [if_pos ei]; exact nb.symm
    refine p g2 _ H ⟨(l.trans le2 hn).same, (l.trans le2 hn).rho, rfl⟩ (by simp; omega) rh2 ?_
    simp only [Rep]
    exact ⟨by simp, by simp [g2]⟩
/-- n bigger, g let be: pr may differ -/
theorem Post.up0 {α β : Type} {K : Kc} {R : Gh → Nat → α → β → Prop} {g g1 : Gh} {n n1 : Nat} {Q : β → Hp → Prop} {E : XK} {r : Res α} (h : Post K R g n Q E r) (l : g.le0 n g1) (hp : g1.pr = g.pr) (hn : n ≤ n1) : Post K R g1 n1 Q E r :=
  Post.up h ⟨l.same, l.rho, hp⟩ hn
theorem Post.bind0 {α β γ δ : Type} {K : Kc} {R : Gh → Nat → α → β → Prop} {R' : Gh → Nat → γ → δ → Prop} {g : Gh} {n : Nat} {E E' : XK} {r : Res α} {k : α → VH → Res γ} {P : β → Hp → Prop} (hb : r.nx.bind k ≠ .bad)
    (hk : ∀ a h' g' u H', r = .ok a h' → g.le n g' → n ≤ h'.length → RelH K g' h' H' → R g' h'.length a u → P u H') : Post K R g n P E r := by
  cases r with
  | ok a h' => exact fun g' u H' l hn rh ra => hk a h' g' u H' rfl l hn rh ra
  | exc e h' => exact (hb rfl).elim
  | bad => exact (hb rfl).elim
section
variable {c : Ck} {X : Cx} {W : WX} {pos : Pos}
theorem comp_run {ck : List (Nat × List PV)} {ws : List Nat} {gm : GM} {mt : TM} {me : EM} {cell : Bool} {src : Src} {K : Kc} {g0 : Gh} {h0 : VH} {H0 : Hp} {J : It} {D : Addr} {Q : VK} {E : XK} {σ : LS} {τ : L2.St}
    (so : SrcOk K g0 h0.length src J) (rs : RelS K g0 h0.length σ τ) (rh : RelH K g0 h0 H0) (nD : H0 D = none)
    (q : Post K (Rep K) g0 h0.length Q E ((compL src.ck ws gm mt me σ src.xs [] h0).bind fun acc h2 => mkL cell acc h2)) :
    ∃ W : Nat → Nat → Hp → Prop, (∃ m, W 0 m (upd H0 D (.lst []))) ∧ ∀ i m H, W i m H →
      (J.stop i H ∧ Q (.ref D) H) ∨ (J.go i H ∧ ∃ Nx : Hp → Prop, (∀ H', Nx H' → ∃ m', m' < m ∧ W (i + 1) m' H') ∧ ∀ x H', J.yld i H x H' → tgOf K gm ws x (L2.wipe τ ws) H' fun τ2 H2 => L2.wipe τ2 ws = L2.wipe τ ws ∧ ttOf K mt τ2 H2 fun b H3 =>
        if b = true then teOf K me τ2 H3 fun y H4 => ∃ acc, H4 D = some (.lst acc) ∧ acc.length < sizeLine ∧ Nx (upd H4 D (.lst (acc ++ [y]))) else Nx H3) := by
  obtain ⟨Gp, Y, wk, hG, hY⟩ := so
  have p0 : g0.pr D = none := by
    cases z : g0.pr D with
    | none => rfl
    | some o => have := (rh.fr D o z).1; rw [nD] at this; cases this
  let Pv : Nat → Hp → Prop := fun i H => ∃ g' h' acc us, g0.le0 h0.length g' ∧ h0.length ≤ h'.length ∧ RelH K g' h' H ∧ g'.pr D = some (.lst us) ∧ (∀ a, a ≠ D → g'.pr a = g0.pr a) ∧ Reps K g' h'.length acc us ∧
    Post K (Rep K) g0 h0.length Q E ((compL src.ck ws gm mt me σ (src.xs.drop i) acc h').bind fun acc h2 => mkL cell acc h2)
  have ckof : ∀ {xs acc h'}, Post K (Rep K) g0 h0.length Q E ((compL src.ck ws gm mt me σ xs acc h').bind fun acc h2 => mkL cell acc h2) → ckOk src.ck h' := fun {xs acc h'} q => by
    by_cases hc : ckOk src.ck h'
    · exact hc
    · cases xs with
      | nil => unfold compL at q; rw [if_neg hc] at q; exact q.elim
      | cons y ys => unfold compL at q; rw [if_neg hc] at q; exact q.elim
  refine lc_it wk Pv ?_ (fun i H hi hh => ?_) (fun i x H H' hi hh hy => ?_) (fun H hh => ?_)
  · exact ⟨g0.wat D [], h0, [], [], g0.wat_le0 _ _ _, Nat.le_refl _, rh.watch nD, if_pos rfl, fun a ha => if_neg ha, Reps.nil, q⟩
  · obtain ⟨g', h', acc, us, l, hn, rh', w, np, ra, q'⟩ := hh
    exact hG g' h' H l hn rh' (ckof q')
  · obtain ⟨g', h', acc, us, l, hn, rh', w, np, ra, q'⟩ := hh
    have hx : src.xs.drop i = src.xs[i] :: src.xs.drop (i + 1) := List.drop_eq_getElem_cons hi
    have hck := ckof q'
    rw [hx] at q'
    unfold compL at q'
    rw [if_pos hck] at q'
    obtain ⟨g2, l2, rh2, rx⟩ := hY i _ g' h' H H' l hn rh' hck (List.getElem?_eq_getElem hi) x hy
    have rsw : RelS K g2 h'.length (wipeL σ ws) (L2.wipe τ ws) := ((rs.mono0 l hn).mono l2 (Nat.le_refl _)).wipe ws
    refine ⟨g2, wipeL σ ws, h', src.xs[i], rsw, rh2, rx, ?_⟩
    cases e1 : gm src.xs[i] (wipeL σ ws) h' with
    | exc e h2 => rw [e1] at q'; exact q'.elim
    | bad => rw [e1] at q'; exact q'.elim
    | ok σ2 h2 =>
    rw [e1, Res.nx_ok, Res.bind_ok] at q'
    intro g3 τ2 H3 l3 hn3 rh3 ⟨rs3, ew⟩
    have ww : L2.wipe (L2.wipe τ ws) ws = L2.wipe τ ws := by
      have gen : ∀ (σ : L2.St) (vs us : List Nat), (∀ v ∈ vs, v ∈ us) → L2.wipe (L2.wipe σ vs) us = L2.wipe σ us := by
        intro σ vs
        induction vs with
        | nil => intro us _; rfl
        | cons v vs ih =>
          intro us hm
          show L2.wipe ((L2.wipe σ vs).set v none) us = _
          rw [wipe_set (hm v List.mem_cons_self), ih us fun w hw => hm w (List.mem_cons_of_mem _ hw)]
      exact gen τ ws ws fun _ h => h
    refine ⟨ew.trans ww, g3, σ2, h2, rs3, rh3, ?_⟩
    cases e2 : mt σ2 h2 with
    | exc e h2 => rw [e2] at q'; exact q'.elim
    | bad => rw [e2] at q'; exact q'.elim
    | ok b h3 =>
    rw [e2, Res.nx_ok, Res.bind_ok] at q'
    intro g4 b' H4 l4 hn4 rh4 eb
    obtain rfl : b' = b := eb
    have l14 : g'.le h'.length g4 := (l2.trans l3 (Nat.le_refl _)).trans l4 (Nat.le_trans (Nat.le_refl _) hn3)
    have hn14 : h'.length ≤ h3.length := Nat.le_trans hn3 hn4
    cases b' with
    | false =>
      rw [if_neg Bool.false_ne_true] at q' ⊢
      exact ⟨g4, h3, acc, us, l.trans l14.to0 hn, Nat.le_trans hn hn14, rh4, by rw [l14.pr]; exact w, fun a ha => by rw [l14.pr]; exact np a ha, ra.mono l14 hn14, q'⟩
    | true =>
      rw [if_pos rfl] at q' ⊢
      refine ⟨g4, σ2, h3, rs3.mono l4 hn4, rh4, ?_⟩
      cases e3 : me σ2 h3 with
      | exc e h2 => rw [e3] at q'; exact q'.elim
      | bad => rw [e3] at q'; exact q'.elim
      | ok y h4 =>
      rw [e3, Res.nx_ok, Res.bind_ok] at q'
      intro g5 u H5 l5 hn5 rh5 ru
      have l15 : g'.le h'.length g5 := l14.trans l5 hn14
      have hn15 : h'.length ≤ h4.length := Nat.le_trans hn14 hn5
      by_cases hz : acc.length < 16777216
      · rw [if_pos hz] at q'
        have w5 : g5.pr D = some (.lst us) := by rw [l15.pr]; exact w
        have la := ra.length
        refine ⟨us, (rh5.fr D _ w5).1, by rw [sizeLine_eq]; omega, g5.wat D (us ++ [u]), h4, acc ++ [y], us ++ [u], Gh.le0_wat (l.trans l15.to0 hn), Nat.le_trans hn hn15, rh5.rewatch w5, if_pos rfl, fun a ha => ?_, ?_, q'⟩
        · show (if a = D then _ else g5.pr a) = _
          rw [if_neg ha, l15.pr]; exact np a ha
        · exact ((ra.mono l15 hn15).append (Reps.cons ru Reps.nil)).mono0 (g5.wat_le0 _ _ _) (Nat.le_refl _)
      · rw [if_neg hz] at q'; exact q'.elim
  · obtain ⟨g', h', acc, us, l, hn, rh', w, np, ra, q'⟩ := hh
    have hck := ckof q'
    rw [List.drop_length] at q'
    unfold compL at q'
    rw [if_pos hck, Res.bind_ok] at q'
    exact mkL_at rh' w ra l hn np p0 q'
variable {elt tg iter : Expr} {ifs : List Expr} {scope : Scope} {own : List (Str × Nat)} {ms : LS → VH → Res Src} {gm : GM} {mt : TM} {me : EM}
theorem SE.lc (cell : Bool) (hc : X.calm = true) (hN : X.N.Nodup) (hi : SI c X W tg iter ms) (ok : BlkOk X.N X.env.scope scope own)
    (hg : ∀ (s : Shared) (H : Hp) (C : Addr) (cl : List (Str × Addr)) (fp : List Addr), SGw c (X.blk s H scope (compEnvC scope cl C X.env) fp) tg gm (own.map (·.2)))
    (ht : ∀ (s : Shared) (H : Hp) (C : Addr) (cl : List (Str × Addr)) (fp : List Addr), STs c (X.blk s H scope (compEnvC scope cl C X.env) fp) W0 ifs mt)
    (he : ∀ (s : Shared) (H : Hp) (C : Addr) (cl : List (Str × Addr)) (fp : List Addr), SE c (X.blk s H scope (compEnvC scope cl C X.env) fp) W0 elt me) (hs : ∀ x, foldedSetIterable iter X.env x = pure x := by intro _; rfl) :
    SE c X W (.ListComp elt [⟨tg, iter, ifs, 0⟩] scope pos) (eLc cell ms (own.map (·.2)) gm mt me) := by
  obtain ⟨ti, pi, si⟩ := hi
  refine ⟨_, pe_lc (te := teOf (kx c X) me) (tt := ttOf (kx c X) mt) (g := tgOf (kx c X) gm (own.map (·.2))) hc hN pi ok (fun s H C cl fp => (hg s H C cl fp).pg) (fun s H C cl fp => (ht s H C cl fp).pts) (fun s H C cl fp => (he s H C cl fp).pe) hs, fun g σ h τ H Q rs rh q => ?_⟩
  refine si g σ h τ H _ rs rh ((Post.bind q).imp (fun J H1 ⟨g1, src, h1, m1, q1⟩ => fun D nD => ?_) fun _ _ _ z => z)
  exact comp_run (ck := []) m1.rep (rs.mono m1.le m1.len) m1.rel nD q1
theorem S1.setLc (cell : Bool) {i : Nat} {y : Str} {py spos : Pos} (hc : X.calm = true) (hN : X.N.Nodup) (hy : X.N[i]? = some y) (hyl : X.env.scope.names.lookup y = some .local)
    (hsw : swapsWith (.ListComp elt [⟨tg, iter, ifs, 0⟩] scope pos) (some (.Name y py)) spos.line X.env = pure true) (hi : SI c X W tg iter ms) (ok : BlkOk X.N X.env.scope scope own)
    (hg : ∀ (s : Shared) (H : Hp) (C : Addr) (cl : List (Str × Addr)) (fp : List Addr), SGw c (X.blk s H scope (compEnvC scope cl C X.env) fp) tg gm (own.map (·.2)))
    (ht : ∀ (s : Shared) (H : Hp) (C : Addr) (cl : List (Str × Addr)) (fp : List Addr), STs c (X.blk s H scope (compEnvC scope cl C X.env) fp) W0 ifs mt)
    (he : ∀ (s : Shared) (H : Hp) (C : Addr) (cl : List (Str × Addr)) (fp : List Addr), SE c (X.blk s H scope (compEnvC scope cl C X.env) fp) W0 elt me) (hs : ∀ x, foldedSetIterable iter X.env x = pure x := by intro _; rfl) :
    S1 c X W (.Assign [.Name y py] (.ListComp elt [⟨tg, iter, ifs, 0⟩] scope pos) spos) (sSet i (eLc cell ms (own.map (·.2)) gm mt me)) := by
  obtain ⟨ti, pi, si⟩ := hi
  refine ⟨_, ps_setLc (te := teOf (kx c X) me) (tt := ttOf (kx c X) mt) (g := tgOf (kx c X) gm (own.map (·.2))) hc hN hy hyl hsw pi ok (fun s H C cl fp => (hg s H C cl fp).pg) (fun s H C cl fp => (ht s H C cl fp).pts) (fun s H C cl fp => (he s H C cl fp).pe) hs, fun g σ h τ H D rs rh q => ?_⟩
  have q' : Post (kx c X) (Rep (kx c X)) g h.length (fun u H1 => gName i u τ H1 D.nx) (at_ W τ) (eLc cell ms (own.map (·.2)) gm mt me σ h) :=
    (PostS.then rs q).imp (fun u H1 ⟨g1, x, h1, m1, q1⟩ => q1 g1 _ H1 (Gh.le.refl _ _) (Nat.le_refl _) m1.rel ((rs.mono m1.le m1.len).set i m1.rep)) fun _ _ _ z => z
  refine si g σ h τ H _ rs rh ((Post.bind q').imp (fun J H1 ⟨g1, src, h1, m1, q1⟩ => fun D nD => ?_) fun _ _ _ z => z)
  exact comp_run (ck := []) m1.rep (rs.mono m1.le m1.len) m1.rel nD q1
end
end Pm
namespace Pm
open PySem PySem.Spec L2 PyProof.Rows

/-! ### repr -/
mutual
def wt : PyData → Nat
  | .none => 4
  | .bool _ => 5
  | .int i => i.natAbs.log2 + 3
  | .str s => 10 * s.length + 2
  | .list xs => wtAll xs + 4
  | .tuple xs => wtAll xs + 4
  | .dict _ => 0
def wtAll : List PyData → Nat
  | [] => 0
  | x :: xs => wt x + 2 + wtAll xs
end
@[simp] theorem wt_int (i : Int) : wt (.int i) = i.natAbs.log2 + 3 := by simp [wt]
@[simp] theorem wt_str (i : Str) : wt (.str i) = 10 * i.length + 2 := by simp [wt]
@[simp] theorem wt_bool (i : Bool) : wt (.bool i) = 5 := by simp [wt]
@[simp] theorem wt_none : wt .none = 4 := by simp [wt]
@[simp] theorem wt_list (xs : List PyData) : wt (.list xs) = wtAll xs + 4 := by simp [wt]
@[simp] theorem wt_tuple (xs : List PyData) : wt (.tuple xs) = wtAll xs + 4 := by simp [wt]
@[simp] theorem wtAll_nil : wtAll [] = 0 := by simp [wtAll]
@[simp] theorem wtAll_cons (x : PyData) (xs : List PyData) : wtAll (x :: xs) = wt x + 2 + wtAll xs := by simp [wtAll]
@[simp] theorem wtAll_append : ∀ (xs ys : List PyData), wtAll (xs ++ ys) = wtAll xs + wtAll ys
  | [], ys => by simp
  | x :: xs, ys => by simp [wtAll_append xs ys]; omega
theorem wtAll_le {B : Nat} : ∀ {xs : List PyData}, (∀ x ∈ xs, wt x ≤ B) → wtAll xs ≤ xs.length * (B + 2)
  | [], _ => by simp
  | x :: xs, h => by
    have h1 := h x List.mem_cons_self
    have h2 := wtAll_le fun y hy => h y (List.mem_cons_of_mem _ hy)
    rw [wtAll_cons, List.length_cons, Nat.succ_mul]; omega
theorem join_len (sep : Str) : ∀ (xs : List Str), (Str.join sep xs).length ≤ (xs.map (·.length + sep.length)).sum
  | [] => by simp [Str.join, Str.length, Str.empty]
  | [x] => by simp [Str.join]
  | x :: y :: r => by
    have h := join_len sep (y :: r)
    show (x ++ sep ++ Str.join sep (y :: r)).length ≤ _
    rw [Str.length_append, Str.length_append]
    simp only [List.map_cons, List.sum_cons] at h ⊢
    omega
theorem ofStr_len (x : String) : (Str.ofString x).length = x.length := PySem.ofString_length x
theorem textFrom_up : ∀ (ts : List Str) (k : Nat) (acc : Str), (textFrom k acc ts).length ≤ acc.length + (ts.map (·.length + 2)).sum
  | [], k, acc => by simp [textFrom]
  | t :: r, k, acc => by
    have h := textFrom_up r (k + 1) (acc ++ (if k > 0 then ", " else "" : String) ++ t)
    have e : (acc ++ ((if k > 0 then ", " else "" : String) : Str) ++ t).length ≤ acc.length + 2 + t.length := by
      rw [Str.length_append, Str.length_append]
      have e1 : (", " : Str).length = 2 := by decide
      have e2 : ("" : Str).length = 0 := by decide
      split <;> omega
    have g : textFrom k acc (t :: r) = textFrom (k + 1) (acc ++ (if k > 0 then ", " else "" : String) ++ t) r := rfl
    rw [g]
    simp only [List.map_cons, List.sum_cons]
    omega
mutual
theorem shown_len : ∀ d : PyData, d.canLay0 = true → d.showable = true → d.shown.length ≤ wt d
  | .none, _, _ => by rw [wt_none]; unfold PyData.shown; decide
  | .bool b, _, _ => by rw [wt_bool]; cases b <;> (unfold PyData.shown; decide)
  | .int i, _, h => by
    rw [wt_int]
    unfold PyData.shown
    show (Str.ofString (toString i)).length ≤ _
    rw [ofStr_len]
    have := PySem.int_text_length_le (a := i) (k := i.natAbs.log2 + 1) (Nat.succ_pos _) (Nat.lt_succ_self _)
    omega
  | .str x, h, _ => by
    rw [wt_str]
    unfold PyData.shown
    refine StrLaws.reprText_len x fun c hc => ?_
    have h2 : PyData.strOk x = true := by simpa [PyData.canLay0] using h
    have h3 := Array.all_eq_true_iff_forall_mem.mp h2 c (Array.mem_toList_iff.mp hc)
    have h4 : c < 0x110000 := by simpa using h3
    have e : (16 : Nat) ^ 8 = 4294967296 := by decide
    omega
  | .list xs, h, h' => by
    rw [wt_list]
    unfold PyData.shown
    have a := shownAll_len xs (by simpa [PyData.canLay0] using h) (by simpa [PyData.showable] using h')
    have b := textFrom_up (PyData.shownAll xs) 0 "["
    have e1 : ("[" : Str).length = 1 := by decide
    have e2 : ("]" : Str).length = 1 := by decide
    unfold listText
    rw [Str.length_append]
    omega
  | .tuple xs, h, h' => by
    rw [wt_tuple]
    unfold PyData.shown
    have a := shownAll_len xs (by simpa [PyData.canLay0] using h) (by simpa [PyData.showable] using h')
    have b := join_len ", " (PyData.shownAll xs)
    have e : (", " : Str).length = 2 := by decide
    have e1 : ("(" : Str).length = 1 := by decide
    have e2 : (")" : Str).length = 1 := by decide
    have e3 : (",)" : Str).length = 2 := by decide
    have e4 : ("()" : Str).length = 2 := by decide
    have c : (tupleText (PyData.shownAll xs)).length ≤ (Str.join ", " (PyData.shownAll xs)).length + 3 := by
      unfold tupleText
      split <;> simp only [Str.length_append, e1, e2, e3, e4, Str.join] <;> omega
    rw [e] at b
    omega
  | .dict _, h, _ => by simp [PyData.canLay0] at h
theorem shownAll_len : ∀ ds : List PyData, PyData.canLayAll0 ds = true → PyData.showableAll ds = true → ((PyData.shownAll ds).map (·.length + 2)).sum ≤ wtAll ds
  | [], _, _ => by simp [PyData.shownAll]
  | d :: ds, h, h' => by
    have h1 : d.canLay0 = true ∧ PyData.canLayAll0 ds = true := by simpa [PyData.canLayAll0] using h
    have h2 : d.showable = true ∧ PyData.showableAll ds = true := by simpa [PyData.showableAll] using h'
    have a := shown_len d h1.1 h2.1
    have b := shownAll_len ds h1.2 h2.2
    simp only [PyData.shownAll, List.map_cons, List.sum_cons, wtAll_cons]
    omega
end

/-- what repr may be asked of -/
def okR (d : PyData) : Prop := d.canLay0 = true ∧ d.showable = true ∧ wt d ≤ 16777216
def reprP (x : PV) (h : VH) : Res PV := match dat h x with
  | some d => if d.canLay0 = true ∧ d.showable = true ∧ wt d ≤ 16777216 then .ok (.str d.shown) h else .bad
  | none => .bad
theorem reprP_ok {x : PV} {h : VH} {d : PyData} (e : dat h x = some d) (z : okR d) : reprP x h = .ok (.str d.shown) h := by
  unfold reprP
  rw [e]
  exact if_pos z
section
variable {c : Ck} {X : Cx} {W : WX} {pos : Pos}
def rReprD (K : PySem.W.Frag) : List V → Hp → VK → Prop := fun xs H Q => ∃ x d, xs = [x] ∧ Dp K H x d ∧ d.canLay0 = true ∧ d.showable = true ∧ d.depth ≤ 40 ∧ d.shown.length ≤ sizeLine ∧ Q (.str d.shown) H
theorem call_reprD (hgd : X.A.guards = some []) (hu : X.A.units + 64 < cLine) : CallR X (.builtin "repr") (rReprD X.K) := by
  intro pins s σ H xs us Q I r h
  obtain ⟨x, d, rfl, dp, cl, sh, dd, sz, q⟩ := h
  obtain ⟨u, rfl, rx⟩ := vals1 r
  have seq : ∀ {a : Addr}, u = .ref a → wpAny (model X.prog X.w) X.A (call (.builtin "repr") [u]) (EP X pins σ Q) X.xe s := fun {a} e => by
    obtain ⟨as, rd⟩ := Dp.reads I d x u dp rx
    subst e
    exact repr_of_reads' rd sh (PyData.noDict_hsm (PyData.hasDict_of_canLay d cl)) hgd (by omega) (fun _ _ z => z) (fun h' t tk hk => ⟨.str d.shown, H, I.kept hk, ⟨_, rfl⟩, q⟩) sz
  cases dp with
  | non =>
    cases (show u = Value.none from rx)
    exact PySem.P.repr_of_none ⟨.str _, H, I.tok _, ⟨_, rfl⟩, by simpa only [PyData.shown] using q⟩
  | bl b =>
    cases (show u = Value.bool b from rx)
    exact PySem.P.repr_of_bool ⟨.str _, H, I.tok _, ⟨_, rfl⟩, by simpa only [PyData.shown] using q⟩
  | int i =>
    obtain ⟨t, rfl⟩ := (show ∃ t, u = Value.int i t from rx)
    exact PySem.P.repr_of_int (by simpa [PyData.showable] using sh) ⟨.str _, H, I.tok _, ⟨_, rfl⟩, by simpa only [PyData.shown] using q⟩
  | str z =>
    obtain ⟨t, rfl⟩ := (show ∃ t, u = Value.str z t from rx)
    exact PySem.P.repr_of_str ⟨.str _, H, I.tok _, ⟨_, rfl⟩, by simpa only [PyData.shown] using q⟩ (by simpa only [PyData.shown] using sz)
  | lst _ _ => exact seq rx
  | tup _ _ => exact seq rx
theorem reprS : CallS c X (rReprD X.K) (one reprP) := fun g h H xs us Q E r rh p => by
  obtain ⟨x, u, rfl, rfl, rx, p⟩ := one_run r p
  unfold reprP at p
  split at p
  · rename_i d e
    split at p
    · rename_i z
      obtain ⟨a1, a2⟩ := toD_run rh 12 rx e
      exact ⟨u, d, rfl, a1, z.1, z.2.1, by omega, by rw [sizeLine_eq]; exact Nat.le_trans (shown_len d z.1 z.2.1) z.2.2, p.go rh repS⟩
    · exact p.elim
  · exact p.elim

/-! ### isinstance -/
/-- a type: a built-in one, or one of the program's -/
inductive Tk where
  | ty (n : String) | cls (C : Nat)
deriving DecidableEq
def tkV (c : Ck) : Tk → Value
  | .ty n => .type n
  | .cls C => .ref (c C)
def tyAt : PV → VH → Option Tk
  | .non, _ => some (.ty "NoneType")
  | .bl _, _ => some (.ty "bool")
  | .int _, _ => some (.ty "int")
  | .str _, _ => some (.ty "str")
  | .tup _, _ => some (.ty "tuple")
  | .lst _, _ => some (.ty "list")
  | .ins C _, _ => some (.cls C)
  | .ref i, h => match h[i]? with
    | some (.lst _) => some (.ty "list")
    | some (.dic _ _) => some (.ty "dict")
    | some (.ins C _) => some (.cls C)
    | _ => none
  | _, _ => none
def clsOf : PV → Option Tk
  | .ty n => some (.ty n)
  | .cls C => some (.cls C)
  | _ => none
@[simp] theorem tyAt_int (i : Int) (h : VH) : tyAt (.int i) h = some (.ty "int") := (rfl)
def kinds : List String := ["NoneType", "bool", "int", "str", "tuple", "list", "dict"]
def bKit (a b : String) : Option Bool := if kinds.contains a && kinds.contains b then some (a == b || (a == "bool" && b == "int")) else none
theorem bKit_ok {a b : String} {r : Bool} (h : bKit a b = some r) : kitB a b = some r := by
  have all : (kinds.all fun a => kinds.all fun b => kitB a b == some (a == b || (a == "bool" && b == "int"))) = true := by decide +kernel
  unfold bKit at h
  split at h
  · rename_i z
    rw [Bool.and_eq_true, List.contains_iff_mem, List.contains_iff_mem] at z
    have := List.all_eq_true.mp (List.all_eq_true.mp all a z.1) b z.2
    rw [beq_iff_eq.mp this]; exact h
  · cases h
/-- a law's own table -/
abbrev Tab := List (Tk × Tk × Bool)
def Tab.at' (t : Tab) (a b : Tk) : Option Bool := (t.find? fun e => decide (e.1 = a) && decide (e.2.1 = b)).map fun e => e.2.2
def kit (t : Tab) (a b : Tk) : Option Bool := match a, b with
  | .ty a, .ty b => bKit a b
  | a, b => t.at' a b
structure TabOk (c : Ck) (K : PySem.W.Frag) (t : Tab) : Prop where
  kit : ∀ e ∈ t, PySem.W.kitOne K (tkV c e.1) (tkV c e.2.1) = some e.2.2
  ins : ∀ e ∈ t, ∀ C, e.1 = .cls C → C8.InsC K (c C)
theorem kit_ok {t : Tab} (T : TabOk c X.K t) {a b : Tk} {r : Bool} (h : kit t a b = some r) : PySem.W.kitOne X.K (tkV c a) (tkV c b) = some r ∧ ∀ C, a = .cls C → C8.InsC X.K (c C) := by
  have tab : ∀ {a b : Tk}, t.at' a b = some r → PySem.W.kitOne X.K (tkV c a) (tkV c b) = some r ∧ ∀ C, a = .cls C → C8.InsC X.K (c C) := fun {a b} h => by
    unfold Tab.at' at h
    obtain ⟨e, h1, h2⟩ := Option.map_eq_some_iff.mp h
    have m := List.mem_of_find?_eq_some h1
    have p := List.find?_some h1
    rw [Bool.and_eq_true, decide_eq_true_eq, decide_eq_true_eq] at p
    have k := T.kit e m
    rw [p.1, p.2, h2] at k
    exact ⟨k, fun C hC => T.ins e m C (p.1.trans hC)⟩
  cases a with
  | ty a =>
    cases b with
    | ty b => exact ⟨kit_ty (bKit_ok h), fun C z => by cases z⟩
    | cls C => exact tab h
  | cls C => exact tab h
def anyK (t : Tab) (a : Tk) : List PV → Option Bool
  | [] => some false
  | x :: xs => match clsOf x with
    | some b => match kit t a b with
      | some true => some true
      | some false => anyK t a xs
      | none => none
    | none => none
/-- the rest of the tuple must hold classes alone -/
def allCls : List PV → Bool
  | [] => true
  | x :: xs => (clsOf x).isSome && allCls xs
def isiP (t : Tab) : List PV → VH → Res PV
  | [x, .tup cs], h => match tyAt x h with
    | some a => if allCls cs = true then (match cs, anyK t a cs with
      | _ :: _, some b => .ok (.bl b) h
      | _, _ => .bad) else .bad
    | none => .bad
  | [x, y], h => match tyAt x h, clsOf y with
    | some a, some b => match kit t a b with
      | some r => .ok (.bl r) h
      | none => .bad
    | _, _ => .bad
  | _, _ => .bad
theorem isiP_ok {t : Tab} {x y : PV} {h : VH} {a b : Tk} {r : Bool} (e1 : tyAt x h = some a) (e2 : clsOf y = some b) (e3 : kit t a b = some r) : isiP t [x, y] h = .ok (.bl r) h := by
  cases y with
  | ty n => simp only [isiP, e1, e2, e3]
  | cls n => simp only [isiP, e1, e2, e3]
  | _ => cases e2
theorem isiP_tup {t : Tab} {x : PV} {cs : List PV} {h : VH} {a : Tk} {r : Bool} (e1 : tyAt x h = some a) (e2 : allCls cs = true) (e0 : cs ≠ []) (e3 : anyK t a cs = some r) : isiP t [x, .tup cs] h = .ok (.bl r) h := by
  cases cs with
  | nil => exact absurd rfl e0
  | cons y ys => simp only [isiP, e1, e2, e3, if_true]
theorem tyAt_run {t : Tab} (T : TabOk c X.K t) {g : Gh} {h : VH} {H : Hp} {x : PV} {u : V} {a : Tk} (rx : Rep (kx c X) g h.length x u) (rh : RelH (kx c X) g h H) (e : tyAt x h = some a) (ins : ∀ C, a = .cls C → C8.InsC X.K (c C)) : TyX X.K H u (tkV c a) := by
  cases x with
  | non => cases e; simp only [Rep] at rx; subst rx; exact .base .non
  | bl b => cases e; simp only [Rep] at rx; subst rx; exact .base (.bl _)
  | int b => cases e; simp only [Rep] at rx; subst rx; exact .base (.int _)
  | str b => cases e; simp only [Rep] at rx; subst rx; exact .base (.str _)
  | tup xs =>
    cases e
    obtain ⟨a, us, rfl, s, r⟩ := tup_run rx rh
    exact .base (.tup s)
  | lst xs =>
    cases e
    obtain ⟨a, us, rfl, s, r⟩ := trkOf_run rx rh (trkOf_lst xs h)
    exact .base (.lst s)
  | ins C fs =>
    cases e
    obtain ⟨a, dx, gs, rfl, s, r⟩ := insAt_run rx rh (insAt_ins C fs h)
    obtain ⟨i1, i2, i3, i4, i5⟩ := ins C rfl
    exact .base (.ins s i1 i2 i3 i4 i5)
  | ref i =>
    have e : (match h[i]? with
      | some (PO.lst _) => some (Tk.ty "list")
      | some (PO.dic _ _) => some (Tk.ty "dict")
      | some (PO.ins C _) => some (Tk.cls C)
      | _ => none) = some a := e
    simp only [Rep] at rx
    split at e
    · rename_i xs e0
      cases e
      obtain ⟨a, us, rfl, s, r⟩ := trkOf_run (by simp only [Rep]; exact rx) rh (trkOf_ref e0)
      exact .base (.lst s)
    · rename_i tt kvs e0
      cases e
      obtain ⟨o, ho, ro⟩ := rh.cell _ _ e0 (by intro z; cases z)
      rw [rx.2]
      cases tt with
      | false => obtain ⟨ws, rfl, rd⟩ := ro; exact .base (.dK ho)
      | true => obtain ⟨ws, rfl, rd⟩ := ro; exact .base (.dT ho)
    · rename_i C fs e0
      cases e
      obtain ⟨a, dx, gs, rfl, s, r⟩ := insAt_run (by simp only [Rep]; exact rx) rh (insAt_ref e0)
      obtain ⟨i1, i2, i3, i4, i5⟩ := ins C rfl
      exact .base (.ins s i1 i2 i3 i4 i5)
    · cases e
  | _ => cases e
theorem clsOf_run {g : Gh} {n : Nat} {y : PV} {u : V} {b : Tk} (ry : Rep (kx c X) g n y u) (e : clsOf y = some b) : ClsV u (tkV c b) := by
  cases y with
  | ty n => cases e; simp only [Rep] at ry; subst ry; exact .ty _
  | cls n => cases e; simp only [Rep] at ry; subst ry; exact .own _
  | _ => cases e
theorem allCls_run {g : Gh} {n : Nat} : ∀ {cs : List PV} {us : List V}, Reps (kx c X) g n cs us → allCls cs = true → ∃ ts : List Tk, cs.map clsOf = ts.map some ∧ Paired ClsV us (ts.map (tkV c))
  | [], _, r, _ => by simp only [Reps] at r; subst r; exact ⟨[], rfl, .nil⟩
  | x :: xs, _, r, h => by
    simp only [Reps] at r
    obtain ⟨u, us', rfl, a, b⟩ := r
    unfold allCls at h
    rw [Bool.and_eq_true] at h
    obtain ⟨k, hk⟩ := Option.isSome_iff_exists.mp h.1
    obtain ⟨ts, e, p⟩ := allCls_run b h.2
    exact ⟨k :: ts, by simp [hk, e], .cons (clsOf_run a hk) p⟩
theorem anyK_run {t : Tab} (T : TabOk c X.K t) {a : Tk} : ∀ {cs : List PV} {ts : List Tk} {r : Bool}, cs.map clsOf = ts.map some → anyK t a cs = some r → PySem.W.kitAny X.K (tkV c a) (ts.map (tkV c)) = some r
  | [], ts, r, e, h => by
    cases ts with
    | nil => exact h
    | cons k ts => simp at e
  | x :: xs, ts, r, e, h => by
    cases ts with
    | nil => simp at e
    | cons k ts =>
      simp only [List.map_cons, List.cons.injEq] at e
      unfold anyK at h
      simp only [e.1] at h
      split at h
      · rename_i hk
        exact kitAny_cons (kit_ok T hk).1 (fun z => by cases z) fun _ => by cases h; rfl
      · rename_i hk
        exact kitAny_cons (kit_ok T hk).1 (fun _ => anyK_run T e.2 h) fun z => by cases z
      · cases h
theorem anyK_ins {t : Tab} (T : TabOk c X.K t) {a : Tk} {x : PV} {xs : List PV} {r : Bool} (h : anyK t a (x :: xs) = some r) : ∀ C, a = .cls C → C8.InsC X.K (c C) := by
  unfold anyK at h
  split at h
  · split at h
    · exact (kit_ok T ‹_›).2
    · exact (kit_ok T ‹_›).2
    · cases h
  · cases h
def rIsiAll (K : PySem.W.Frag) : List V → Hp → VK → Prop := fun xs H Q => rIsi K xs H Q ∨ rIsiT K xs H Q
theorem call_isiAll : CallR X (.builtin "isinstance") (rIsiAll X.K) := call_isi.or call_isiT
theorem isiS {t : Tab} (T : TabOk c X.K t) : CallS c X (rIsiAll X.K) (isiP t) := fun g h H xs us Q E r rh p => by
  unfold isiP at p
  split at p
  · rename_i x cs
    obtain ⟨u, v, rfl, rx, ry⟩ := r.two
    split at p
    · rename_i a e1
      split at p
      · rename_i hc
        split at p
        · rename_i b e3
          obtain ⟨q, us, rfl, s, r1⟩ := tup_run ry rh
          obtain ⟨ts, em, pr⟩ := allCls_run r1 hc
          exact .inr ⟨u, q, us, _, _, _, rfl, s, pr, tyAt_run T rx rh e1 (anyK_ins T e3), anyK_run T em e3, p.go rh repB⟩
        · exact p.elim
      · exact p.elim
    · exact p.elim
  · rename_i x y hny
    obtain ⟨u, v, rfl, rx, ry⟩ := r.two
    split at p
    · rename_i a b e1 e2
      split at p
      · rename_i rr e3
        obtain ⟨k1, k2⟩ := kit_ok T e3
        exact .inl ⟨u, v, _, _, _, rfl, clsOf_run ry e2, tyAt_run T rx rh e1 k2, k1, p.go rh repB⟩
      · exact p.elim
    · exact p.elim
  · exact p.elim
end
end Pm
namespace Pm
open PySem PySem.Spec L2 PyProof.Rows

/-! ### a cell written -/
theorem RelH.setc {K : Kc} {g : Gh} {h : VH} {H : Hp} {i : Nat} {p o : PO} {u : HO} (r : RelH K g h H) (e : h[i]? = some p) (d : p ≠ .dead) (ro : RepO K g h.length o u) : RelH K g (h.set i o) (upd H (g.ρ i) u) := by
  have hi : i < h.length := (List.getElem?_eq_some_iff.mp e).1
  have old : ∀ {j q}, (h.set i o)[j]? = some q → (j = i ∧ q = o) ∨ (j ≠ i ∧ h[j]? = some q) := fun {j q} z => by
    by_cases hj : i = j
    · subst hj
      rw [List.getElem?_set_self hi] at z
      cases z
      exact .inl ⟨rfl, rfl⟩
    · rw [List.getElem?_set_ne hj] at z
      exact .inr ⟨fun q => hj q.symm, z⟩
  have was : ∀ {j q}, (h.set i o)[j]? = some q → q ≠ PO.dead → ∃ q', h[j]? = some q' ∧ q' ≠ PO.dead := fun {j q} z dq => by
    rcases old z with ⟨rfl, _⟩ | ⟨_, z⟩
    · exact ⟨p, e, d⟩
    · exact ⟨q, z, dq⟩
  refine ⟨fun b w eb => ?_, fun j q z dq => ?_, fun j q z dq => ?_, fun j k q q' z dq z' dq' er => ?_, fun b w eb => ?_, fun a2 dd e2 z => let ⟨gs, e3, e4⟩ := r.ex a2 dd e2 z; ⟨gs, e3, by rw [List.length_set]; exact e4⟩⟩
  · have nb : b ≠ g.ρ i := fun z => by rw [z, r.sep i p e d] at eb; cases eb
    rw [upd_ne nb]; exact r.same b w eb
  · rcases old z with ⟨rfl, rfl⟩ | ⟨nj, z⟩
    · exact ⟨u, upd_same, by rw [List.length_set]; exact ro⟩
    · obtain ⟨u', hu, ru⟩ := r.cell j q z dq
      have ne : g.ρ j ≠ g.ρ i := fun z' => nj (r.inj j i q p z dq e d z')
      exact ⟨u', by rw [upd_ne ne]; exact hu, by rw [List.length_set]; exact ru⟩
  · obtain ⟨q', z', dq'⟩ := was z dq
    exact r.sep j q' z' dq'
  · obtain ⟨a, za, da⟩ := was z dq
    obtain ⟨b, zb, db⟩ := was z' dq'
    exact r.inj j k a b za da zb db er
  · obtain ⟨h1, h2, h3⟩ := r.fr b w eb
    have nb : b ≠ g.ρ i := fun z => h3 i p e d z.symm
    refine ⟨by rw [upd_ne nb]; exact h1, h2, fun j q z dq => ?_⟩
    obtain ⟨q', z', dq'⟩ := was z dq
    exact h3 j q' z' dq'
/-- a list's cell -/
def celL (x : PV) (h : VH) : Option (Nat × List PV) := match x with
  | .ref i => match h[i]? with
    | some (.lst xs) => some (i, xs)
    | _ => none
  | _ => none
theorem celL_ref {i : Nat} {xs : List PV} {h : VH} (e : h[i]? = some (.lst xs)) : celL (.ref i) h = some (i, xs) := by simp [celL, e]
theorem celL_run {K : Kc} {g : Gh} {h : VH} {H : Hp} {x : PV} {u : V} {i : Nat} {xs : List PV} (rx : Rep K g h.length x u) (rh : RelH K g h H) (e : celL x h = some (i, xs)) :
    x = .ref i ∧ u = .ref (g.ρ i) ∧ h[i]? = some (.lst xs) ∧ ∃ us, H (g.ρ i) = some (.lst us) ∧ Reps K g h.length xs us := by
  cases x with
  | ref j =>
    simp only [Rep] at rx
    have e : (match h[j]? with
      | some (PO.lst xs) => some (j, xs)
      | _ => none) = some (i, xs) := e
    split at e
    · rename_i ys e1
      cases e
      obtain ⟨u', hu, ru⟩ := rh.cell i _ e1 (by intro z; cases z)
      obtain ⟨us, rfl, r⟩ := ru
      exact ⟨rfl, rx.2, e1, us, hu, r⟩
    · cases e
  | _ => cases e
section
variable {c : Ck} {X : Cx} {W : WX} {pos apos : Pos} {o e : Expr} {es : List Expr} {mo m : EM} {ms : AM} {name : Str}
/-- xs becomes ys, in place, and v comes out -/
def MtS (c : Ck) (X : Cx) (r : V → List V → Hp → VK → Prop) (f : PV → List PV → VH → Res PV) : Prop :=
  ∀ g h H x xs u us Q E, Rep (kx c X) g h.length x u → Reps (kx c X) g h.length xs us → RelH (kx c X) g h H → Post (kx c X) (Rep (kx c X)) g h.length Q E (f x xs h) → r u us H Q
/-- the receiver is a list, before and behind the arguments -/
def lstMt (x : PV) (ms : AM) (σ : LS) (h : VH) (f : PV → List PV → VH → Res PV) : Res PV := match lstOf x h with
  | some _ => (ms σ h).bind fun xs h1 => f x xs h1
  | none => .bad
def eLm (f : PV → List PV → VH → Res PV) (mo : EM) (ms : AM) : EM := fun σ h => (mo σ h).bind fun x h1 => lstMt x ms σ h1 f
theorem lstMt_lst {xs : List PV} {ms : AM} {σ : LS} {h : VH} {f : PV → List PV → VH → Res PV} : lstMt (.lst xs) ms σ h f = (ms σ h).bind fun ys h1 => f (.lst xs) ys h1 := rfl
theorem lstMt_ok {x : PV} {xs : List PV} {ms : AM} {σ : LS} {h : VH} {f : PV → List PV → VH → Res PV} (e : lstOf x h = some xs) : lstMt x ms σ h f = (ms σ h).bind fun ys h1 => f x ys h1 := by simp [lstMt, e]
theorem SE.lm {id : String} {r : V → List V → Hp → VK → Prop} {f : PV → List PV → VH → Res PV} (slot : Slot "list" name id) (hty : typeOf (.builtin id) = pure (.type "method_descriptor")) (hm : MtR X id r) (hs : MtS c X r f) (ho : SE c X W o mo) (ha : SA c X W (e :: es) ms)
    (hbase : attributeBase o name X.env (eval o X.env) = eval o X.env := by rfl)
    (hfew : ((backTo pos (starEach (e :: es) X.env)).all (fun x => !x.1) && (backToKw pos (keywordEach [] X.env)).all (fun x => x.1.isSome)
      && decide ((e :: es).length + ([] : List Keyword).length + (if ([] : List Keyword).isEmpty then 0 else 1) < 30)) = true := by rfl)
    (hline : (apos.endLine == pos.line) = true := by rfl) (hst : starEach (e :: es) X.env = (false, eval e X.env) :: starEach es X.env := by rfl) (hplain : (backTo pos (starEach es X.env)).any (·.1) = false := by rfl) :
    SE c X W (.Call (.Attribute o name apos) (e :: es) [] pos) (eLm f mo ms) := by
  obtain ⟨t, p, s⟩ := ho
  obtain ⟨_, ta, pa, sa⟩ := ha
  refine ⟨_, pe_bm PySem.F.plainAttrs_list slot hty hm p pa hbase hfew hline hst hplain, fun g σ h τ H Q rs rh q => ?_⟩
  refine s g σ h τ H _ rs rh ((Post.bind q).imp (fun u H1 ⟨g1, x, h1, m1, q1⟩ => ?_) fun _ _ _ z => z)
  unfold lstMt at q1
  split at q1
  · rename_i xs e0
    obtain ⟨a, us, rfl, sq, r1⟩ := lstOf_run m1.rep m1.rel e0
    refine ⟨.inl ⟨rfl, us, sq⟩, sa g1 σ h1 τ H1 _ (rs.mono m1.le m1.len) m1.rel ((Post.bind q1).imp (fun ws H2 ⟨g2, ys, h2, m2, q2⟩ => ?_) fun _ _ _ z => z)⟩
    exact hs g2 h2 H2 x ys (.ref a) ws Q _ (m1.rep.mono m2.le m2.len) m2.rep m2.rel q2
  · exact q1.elim
theorem SE.lm0 {id : String} {r : V → List V → Hp → VK → Prop} {f : PV → List PV → VH → Res PV} (slot : Slot "list" name id) (hty : typeOf (.builtin id) = pure (.type "method_descriptor")) (hm : MtR X id r) (hs : MtS c X r f) (ho : SE c X W o mo)
    (hbase : attributeBase o name X.env (eval o X.env) = eval o X.env := by rfl) (hline : (apos.endLine == pos.line) = true := by rfl) : SE c X W (.Call (.Attribute o name apos) [] [] pos) (eLm f mo aNil) := by
  obtain ⟨t, p, s⟩ := ho
  refine ⟨_, pe_bm0 PySem.F.plainAttrs_list slot hty hm p hbase hline, fun g σ h τ H Q rs rh q => ?_⟩
  refine s g σ h τ H _ rs rh ((Post.bind q).imp (fun u H1 ⟨g1, x, h1, m1, q1⟩ => ?_) fun _ _ _ z => z)
  unfold lstMt at q1
  split at q1
  · rename_i xs e0
    obtain ⟨a, us, rfl, sq, r1⟩ := lstOf_run m1.rep m1.rel e0
    exact ⟨.inl ⟨rfl, us, sq⟩, hs g1 h1 H1 x [] (.ref a) [] Q _ m1.rep Reps.nil m1.rel q1⟩
  · exact q1.elim
def appendP (x : PV) (ys : List PV) (h : VH) : Res PV := match celL x h, ys with
  | some (i, xs), [y] => if xs.length < 16777216 then .ok .non (h.set i (.lst (xs ++ [y]))) else .bad
  | _, _ => .bad
theorem appendP_ok {i : Nat} {xs : List PV} {y : PV} {h : VH} (e : h[i]? = some (.lst xs)) (z : xs.length < 16777216) : appendP (.ref i) [y] h = .ok .non (h.set i (.lst (xs ++ [y]))) := by
  simp only [appendP, celL_ref e, if_pos z]
theorem appendS : MtS c X rAppend appendP := fun g h H x ys u vs Q E rx ry rh p => by
  unfold appendP at p
  split at p
  · rename_i i xs y e0
    split at p
    · rename_i z
      obtain ⟨rfl, rfl, e1, us, hu, r⟩ := celL_run rx rh e0
      obtain ⟨w, rfl, rw'⟩ := ry.one
      refine ⟨_, us, w, rfl, rfl, hu, by rw [r.length, sizeLine_eq]; exact z, ?_⟩
      exact p g _ _ (Gh.le.refl _ _) (by simp) (rh.setc e1 (by intro z; cases z) ⟨us ++ [w], rfl, r.append (Reps.cons rw' Reps.nil)⟩) repN
    · exact p.elim
  · exact p.elim
def popP (x : PV) (ys : List PV) (h : VH) : Res PV := match celL x h, ys with
  | some (i, xs), [] => match xs[xs.length - 1]? with
    | some v => .ok v (h.set i (.lst xs.dropLast))
    | none => .bad
  | some (i, xs), [.int k] => if -(2 ^ 63) ≤ k ∧ k < 2 ^ 63 then (match seqIndex? k xs.length with
    | some j => match xs[j]? with
      | some v => .ok v (h.set i (.lst (xs.eraseIdx j)))
      | none => .bad
    | none => .bad) else .bad
  | _, _ => .bad
theorem popP_last {i : Nat} {xs : List PV} {v : PV} {h : VH} (e : h[i]? = some (.lst (xs ++ [v]))) : popP (.ref i) [] h = .ok v (h.set i (.lst xs)) := by
  simp only [popP, celL_ref e]
  simp
theorem popP_at {i j : Nat} {k : Int} {xs : List PV} {v : PV} {h : VH} (e : h[i]? = some (.lst xs)) (z : -(2 ^ 63) ≤ k ∧ k < 2 ^ 63) (e1 : seqIndex? k xs.length = some j) (e2 : xs[j]? = some v) : popP (.ref i) [.int k] h = .ok v (h.set i (.lst (xs.eraseIdx j))) := by
  simp only [popP, celL_ref e, if_pos z, e1, e2]
def rPopAll : V → List V → Hp → VK → Prop := fun x xs H Q => rPop x xs H Q ∨ rPopAt x xs H Q
theorem mt_popAll : MtR X "list.pop" rPopAll := MtR.or (r := rPop) mt_pop (r' := rPopAt) mt_popAt
theorem Reps.dropLast {K : Kc} {g : Gh} {n : Nat} {xs : List PV} {us : List V} (r : Reps K g n xs us) : Reps K g n xs.dropLast us.dropLast := by
  rw [List.dropLast_eq_take, List.dropLast_eq_take, r.length]
  exact r.take _
theorem Reps.eraseIdx {K : Kc} {g : Gh} {n : Nat} {xs : List PV} {us : List V} (r : Reps K g n xs us) (j : Nat) : Reps K g n (xs.eraseIdx j) (us.eraseIdx j) := by
  rw [List.eraseIdx_eq_take_drop_succ, List.eraseIdx_eq_take_drop_succ]
  exact (r.take _).append (r.drop _)
theorem popS : MtS c X rPopAll popP := fun g h H x ys u vs Q E rx ry rh p => by
  unfold popP at p
  split at p
  · rename_i i xs e0
    split at p
    · rename_i v e2
      obtain ⟨rfl, rfl, e1, us, hu, r⟩ := celL_run rx rh e0
      simp only [Reps] at ry
      obtain ⟨w, e3, rw'⟩ := r.get e2
      refine .inl ⟨_, us, w, rfl, ry, hu, by rw [r.length]; exact e3, ?_⟩
      exact p g _ _ (Gh.le.refl _ _) (by simp) (rh.setc e1 (by intro z; cases z) ⟨_, rfl, r.dropLast⟩) (by simpa using rw')
    · exact p.elim
  · rename_i i xs k e0
    split at p
    · rename_i z
      split at p
      · rename_i j e2
        split at p
        · rename_i v e3
          obtain ⟨rfl, rfl, e1, us, hu, r⟩ := celL_run rx rh e0
          obtain ⟨w, rfl, rw'⟩ := ry.one
          simp only [Rep] at rw'
          obtain ⟨w2, e4, rw2⟩ := r.get e3
          refine .inr ⟨_, us, k, j, w2, rfl, by rw [rw'], hu, z.1, z.2, by rw [r.length]; exact e2, e4, ?_⟩
          exact p g _ _ (Gh.le.refl _ _) (by simp) (rh.setc e1 (by intro z; cases z) ⟨_, rfl, r.eraseIdx j⟩) (by simpa using rw2)
        · exact p.elim
      · exact p.elim
    · exact p.elim
  · exact p.elim
def insertP (x : PV) (ys : List PV) (h : VH) : Res PV := match celL x h, ys with
  | some (i, xs), [.int k, y] => if xs.length < 16777216 ∧ 0 ≤ k ∧ k < 2 ^ 63 then .ok .non (h.set i (.lst (xs.take k.toNat ++ [y] ++ xs.drop k.toNat))) else .bad
  | _, _ => .bad
theorem insertP_ok {i : Nat} {k : Int} {xs : List PV} {y : PV} {h : VH} (e : h[i]? = some (.lst xs)) (z : xs.length < 16777216 ∧ 0 ≤ k ∧ k < 2 ^ 63) : insertP (.ref i) [.int k, y] h = .ok .non (h.set i (.lst (xs.take k.toNat ++ [y] ++ xs.drop k.toNat))) := by
  simp only [insertP, celL_ref e, if_pos z]
theorem insertS : MtS c X (fun x vs H Q => ∃ (l : Addr) (xs : List V) (i : Int) (y : V), x = .ref l ∧ vs = [.int i, y] ∧ H l = some (.lst xs) ∧ xs.length < sizeLine ∧ 0 ≤ i ∧ i < 2 ^ 63 ∧ Q .non (upd H l (.lst (xs.take i.toNat ++ [y] ++ xs.drop i.toNat)))) insertP := fun g h H x ys u vs Q E rx ry rh p => by
  unfold insertP at p
  split at p
  · rename_i i xs k y e0
    split at p
    · rename_i z
      obtain ⟨rfl, rfl, e1, us, hu, r⟩ := celL_run rx rh e0
      obtain ⟨w, w2, rfl, rw', rw2⟩ := ry.two
      simp only [Rep] at rw'
      refine ⟨_, us, k, w2, rfl, by rw [rw'], hu, by rw [r.length, sizeLine_eq]; exact z.1, z.2.1, z.2.2, ?_⟩
      exact p g _ _ (Gh.le.refl _ _) (by simp) (rh.setc e1 (by intro z; cases z) ⟨_, rfl, ((r.take _).append (Reps.cons rw2 Reps.nil)).append (r.drop _)⟩) repN
    · exact p.elim
  · exact p.elim
def extendP (x : PV) (ys : List PV) (h : VH) : Res PV := match celL x h, ys with
  | some (i, xs), [y] => match trkOf y h with
    | some zs => if xs.length + zs.length ≤ 16777216 then .ok .non (h.set i (.lst (xs ++ zs))) else .bad
    | none => .bad
  | _, _ => .bad
theorem extendP_ok {i : Nat} {xs zs : List PV} {y : PV} {h : VH} (e : h[i]? = some (.lst xs)) (e2 : trkOf y h = some zs) (z : xs.length + zs.length ≤ 16777216) : extendP (.ref i) [y] h = .ok .non (h.set i (.lst (xs ++ zs))) := by
  simp only [extendP, celL_ref e, e2, if_pos z]
theorem extendS : MtS c X rExtend extendP := fun g h H x ys u vs Q E rx ry rh p => by
  unfold extendP at p
  split at p
  · rename_i i xs y e0
    split at p
    · rename_i zs e2
      split at p
      · rename_i z
        obtain ⟨rfl, rfl, e1, us, hu, r⟩ := celL_run rx rh e0
        obtain ⟨w, rfl, rw'⟩ := ry.one
        obtain ⟨b, ws, rfl, hb, rb⟩ := trkOf_run rw' rh e2
        refine ⟨_, b, us, ws, rfl, rfl, hu, hb, by rw [r.length, rb.length, sizeLine_eq]; exact z, ?_⟩
        exact p g _ _ (Gh.le.refl _ _) (by simp) (rh.setc e1 (by intro z; cases z) ⟨_, rfl, r.append rb⟩) repN
      · exact p.elim
    · exact p.elim
  · exact p.elim
/-- xs.index(y), by values -/
def indexP (x : PV) (ys : List PV) (h : VH) : Res PV := match dat h x, ys with
  | some (.list ds), [y] => match dat h y with
    | some d => if PyData.canLayAll0 ds = true ∧ d.canLay0 = true then (match ds.findIdx? fun z => PyData.eqv z d with
      | some j => .ok (.int (j : Nat)) h
      | none => .bad) else .bad
    | none => .bad
  | _, _ => .bad
theorem indexP_ok {x y : PV} {h : VH} {ds : List PyData} {d : PyData} {j : Nat} (e1 : dat h x = some (.list ds)) (e2 : dat h y = some d) (z : PyData.canLayAll0 ds = true ∧ d.canLay0 = true) (e3 : (ds.findIdx? fun z => PyData.eqv z d) = some j) : indexP x [y] h = .ok (.int (j : Nat)) h := by
  simp only [indexP, e1, e2, if_pos z, e3]
theorem indexS : MtS c X (rIndexD X.K) indexP := fun g h H x ys u vs Q E rx ry rh p => by
  unfold indexP at p
  split at p
  · rename_i ds y e0
    split at p
    · rename_i d e1
      split at p
      · rename_i z
        split at p
        · rename_i j e2
          obtain ⟨w, rfl, rw'⟩ := ry.one
          obtain ⟨a1, a2⟩ := toD_run rh 12 rx e0
          obtain ⟨b1, b2⟩ := toD_run rh 12 rw' e1
          obtain ⟨f1, f2, f3⟩ := List.findIdx?_eq_some_iff_getElem.mp e2
          cases a1 with
          | lst sq da =>
            refine ⟨_, w, d, ds, j, ds[j], rfl, rfl, .lst sq da, b1, shaped_of (by simpa [PyData.canLay0] using z.1) a2, shaped_of z.2 b2, List.getElem?_eq_getElem f1, f2, fun m z' hm hz => ?_, p.go rh repI⟩
            obtain ⟨hm1, rfl⟩ := List.getElem?_eq_some_iff.mp hz
            have := f3 m hm
            simpa using this
        · exact p.elim
      · exact p.elim
    · exact p.elim
  · exact p.elim

/-! ### a[i] = v -/
def setP (x y v : PV) (h : VH) : Res Unit := match celL x h, y with
  | some (i, xs), .int k => match ixN xs.length k with
    | some j => .ok () (h.set i (.lst (xs.set j v)))
    | none => .bad
  | _, _ => .bad
theorem setP_ok {i j : Nat} {k : Int} {xs : List PV} {v : PV} {h : VH} (e : h[i]? = some (.lst xs)) (e1 : ixN xs.length k = some j) : setP (.ref i) (.int k) v h = .ok () (h.set i (.lst (xs.set j v))) := by
  simp only [setP, celL_ref e, e1]
theorem ixN_nat {n j : Nat} (h : j < n) : ixN n (j : Int) = some j := by
  unfold ixN
  rw [if_pos (by omega), if_pos (by omega)]; simp
theorem ixN_pos {n : Nat} {k : Int} (h0 : 0 ≤ k) (h : k < n) : ixN n k = some k.toNat := by
  unfold ixN
  rw [if_pos h0, if_pos h]
theorem set_run {g : Gh} {h : VH} {H : Hp} {x y v : PV} {u w z : V} {Q : Unit → Hp → Prop} {E : XK} (rx : Rep (kx c X) g h.length x u) (ry : Rep (kx c X) g h.length y w) (rv : Rep (kx c X) g h.length v z) (rh : RelH (kx c X) g h H)
    (p : Post (kx c X) (fun _ _ _ _ => True) g h.length Q E (setP x y v h)) : rSetL u w z H (Q ()) := by
  unfold setP at p
  split at p
  · rename_i i xs k e0
    split at p
    · rename_i j e1
      obtain ⟨rfl, rfl, e2, us, hu, r⟩ := celL_run rx rh e0
      simp only [Rep] at ry
      refine ⟨_, us, k, j, rfl, ry, hu, by rw [r.length]; exact e1, ?_⟩
      exact p g () _ (Gh.le.refl _ _) (by simp) (rh.setc e2 (by intro z; cases z) ⟨_, rfl, r.set rv j⟩) trivial
    · exact p.elim
  · exact p.elim
def gSubM (mo mi : EM) : GM := fun v σ h => ((mo σ h).nx).bind fun x h1 => ((mi σ h1).nx).bind fun y h2 => ((setP x y v h2).nx).bind fun _ h3 => .ok σ h3
theorem SG.sub {i : Expr} {mi : EM} (ho : SE c X W o mo) (hi : SE c X W i mi)
    (ha : ∀ v, assign (.Subscript o i pos) X.env v = (do
      let ov ← holding [v] (eval o X.env)
      let iv ← holding [v, ov] (eval i X.env)
      standAt pos
      holding [v, ov, iv] (setItem ov iv v)
      release [v, ov, iv] []) := by intro _; rfl) : SG c X (.Subscript o i pos) (gSubM mo mi) := by
  obtain ⟨t, p, s⟩ := ho
  obtain ⟨ti, pi, si⟩ := hi
  refine ⟨_, pg_sub p pi set_list ha, fun g σ h τ H v u N rs rh rv q => ?_⟩
  refine s g σ h τ H _ rs rh ((Post.nx (E' := at_ W τ) (Post.bind (R := Rep (kx c X)) q)).imp (fun a H1 ⟨g1, x, h1, m1, q1⟩ => ?_) fun _ _ _ z => z)
  refine si g1 σ h1 τ H1 _ (rs.mono m1.le m1.len) m1.rel ((Post.nx (E' := at_ W τ) (Post.bind (R := Rep (kx c X)) q1)).imp (fun b H2 ⟨g2, y, h2, m2, q2⟩ => ?_) fun _ _ _ z => z)
  have le2 := m1.le.trans m2.le m1.len
  have ln2 := Nat.le_trans m1.len m2.len
  refine set_run (Q := fun _ H3 => N τ H3) (E := noX) (m1.rep.mono m2.le m2.len) m2.rep (rv.mono le2 ln2) m2.rel ((Post.nx (E' := noX) (Post.bind (R := fun _ _ _ _ => True) q2)).imp (fun _ H3 ⟨g3, _, h3, m3, q3⟩ => ?_) fun _ _ _ z => z)
  exact q3 g3 τ H3 (Gh.le.refl _ _) (Nat.le_refl _) m3.rel (rs.mono (le2.trans m3.le ln2) (Nat.le_trans ln2 m3.len))

/-! ### op= -/
def sAug (i : Nat) (m : EM) (f : PV → PV → VH → Res PV) : SM := fun σ h => match σ[i]? with
  | some (some x) => (m σ h).then σ fun y h1 => (f x y h1).then σ fun z h2 => .nx (σ.set i (some z)) h2
  | _ => .bad
theorem S1.aug {i : Nat} {x : Str} {op : Operator} {r : R2} {f : PV → PV → VH → Res PV} {pos' : Pos} (hN : X.N.Nodup) (hi : X.N[i]? = some x) (hx : Loc X.env.scope x) (ho : PIp X op r) (hs : OpS c X r f) (he : SE c X W e m)
    (hf : X.fn x = true ∨ X.env.scope.names.lookup x = some .local := by first | exact .inl rfl | exact .inr rfl | assumption) : S1 c X W (.AugAssign (.Name x pos') op e pos) (sAug i m f) := by
  obtain ⟨t, p, s⟩ := he
  refine ⟨_, ps_aug hN hi hx p ho hf, fun g σ h τ H D rs rh q => ?_⟩
  dsimp only [sAug] at q
  split at q
  · rename_i v e0
    obtain ⟨u, e1, ru⟩ := rs.get i v e0
    refine ⟨u, e1, s g σ h τ H _ rs rh ((PostS.then rs q).imp (fun w H1 ⟨g1, y, h1, m1, q1⟩ => ?_) fun _ _ _ z => z)⟩
    have rs1 := rs.mono m1.le m1.len
    refine hs g1 h1 H1 v y u w _ _ (ru.mono m1.le m1.len) m1.rep m1.rel ((PostS.then rs1 q1).imp (fun z H2 ⟨g2, z', h2, m2, q2⟩ => ?_) fun _ _ _ z => z)
    exact q2 g2 _ H2 (Gh.le.refl _ _) (Nat.le_refl _) m2.rel ((rs1.mono m2.le m2.len).set i m2.rep)
  · exact q.elim

/-! ### raise -/
/-- what an own __init__ of one, two fields does to an exception that is being made -/
def spX1 (C : Addr) (f : Str) : Sp := fun vs H Q E => ∃ a w, vs = [.ref a, w] ∧ H a = some (exo a C none) ∧ ∀ d, H d = none → d ≠ a → Q .non (upd (upd H d (exd d [(f, w)])) a (exo a C (some d)))
def spX2 (C : Addr) (f f' : Str) : Sp := fun vs H Q E => ∃ a w w', vs = [.ref a, w, w'] ∧ H a = some (exo a C none) ∧ ∀ d, H d = none → d ≠ a → Q .non (upd (upd (upd H d (exd d [(f, w)])) a (exo a C (some d))) d (exd d [(f', w'), (f, w)]))
def sRaise (C : Nat) (fs : List Str) (ms : AM) : SM := fun σ h => (ms σ h).then σ fun xs h1 => .xc ⟨C, (fs.zip xs).reverse⟩ σ h1
section
variable {C : Nat} {k : Nat} {fI : Addr} {fd : FuncData} {ps : List Str} {x : Str} {p pos' : Pos}
theorem RelH.xd {K : Kc} {g : Gh} {h : VH} {H : Hp} {a d : Addr} {fs : List (Str × V)} {H2 : Hp} (rh : RelH K g h H) (na : H a = none) (nd : H d = none) (e : ∀ b, b ≠ a → b ≠ d → H2 b = H b) :
    g.le h.length { g with Hf := upd g.Hf d (.xd fs) } ∧ RelH K { g with Hf := upd g.Hf d (.xd fs) } h (upd (del H2 a) d (.xd fs)) := by
  have ee : upd (del H2 a) d (.xd fs) = upd H d (.xd fs) := by
    funext b
    by_cases hb : b = d
    · subst hb; rw [upd_same, upd_same]
    · rw [upd_ne hb, upd_ne hb]
      by_cases ha : b = a
      · subst ha; rw [del_same, na]
      · rw [del_ne ha, e b ha hb]
  rw [ee]
  exact RelH.frz rh nd
theorem len2 {α : Type} : ∀ {xs : List α}, xs.length = 2 → ∃ a b, xs = [a, b]
  | [a, b], _ => ⟨a, b, rfl⟩
  | [], h => by simp at h
  | [_], h => by simp at h
  | _ :: _ :: _ :: _, h => by simp at h
theorem S1.raise1 {f : Str} (T : OexC X.K (c C)) (iC : PySem.W.findIn X.K (.ref (c C)) "__init__" = some (some (.ref fI))) (tI : PySem.W.typeIn X.K (.ref fI) = some (.type "function")) (F1 : FnOk X.prog X.w X.K X.mg X.base (L2.CX X.prog X.w) k fI fd ps (spX1 (c C) f))
    (hr : Room (k + 1) X.A) (hb : Binds X.K fd ps []) (hx : Passes (L2.CX X.prog X.w) X (fun _ _ _ => False)) (hg : Gl X x) (hm : X.mg x = some (.ref (c C))) (ha : SA c X W [e] ms) (hc : X.calm = true) (tk : Takes X W)
    (hdb : (x == ("__debug__" : Str)) = false := by decide) (he : starEach [e] X.env = (false, eval e X.env) :: starEach [] X.env := by rfl) (hpl : (backTo pos (starEach [] X.env)).any (·.1) = false := by rfl) :
    S1 c X W (.Raise (some (.Call (.Name x p) [e] [] pos)) none pos') (sRaise C [f] ms) := by
  obtain ⟨la, t, pa, s⟩ := ha
  refine ⟨_, ps_raise hc tk (pmk_oex T iC tI F1 hr hb .nil hx hg hm pa hdb he hpl), fun g σ h τ H D rs rh q => s g σ h τ H _ rs rh ?_⟩
  have q := PostS.then (R := Reps (kx c X)) rs q
  have ln := fun xs h' => la σ h xs h'
  generalize ms σ h = res at q ln
  cases res with
  | exc e' h' => exact q
  | bad => exact q
  | ok xs h' =>
    intro g0 us H1 l0 hn0 rh0 ru0
    obtain ⟨g1, ys, h1, m1, q1⟩ := q g0 us H1 l0 hn0 rh0 ru0
    have lu := m1.rep.length
    have l1 : us.length = 1 := ru0.length.trans (ln xs h' rfl)
    obtain ⟨u, rfl⟩ : ∃ u, us = [u] := List.length_eq_one_iff.mp l1
    obtain ⟨y, rfl⟩ : ∃ y, ys = [y] := List.length_eq_one_iff.mp (lu.symm.trans l1)
    obtain ⟨_, e1, ry⟩ := m1.rep.one
    cases e1
    refine ⟨by simp, fun a na => ⟨a, u, rfl, upd_same, fun d nd hda => ⟨rfl, d, [(f, u)], upd_same, ?_, ?_, ?_⟩⟩⟩
    · rw [upd_ne hda, upd_same]
    · rw [upd_ne hda] at nd; exact nd
    · rw [upd_ne hda] at nd
      obtain ⟨le, rh2⟩ := RelH.xd (a := a) (d := d) (fs := [(f, u)]) (H2 := upd (upd (upd H1 a (exo a (c C) none)) d (exd d [(f, u)])) a (exo a (c C) (some d))) m1.rel na nd fun b ba bd => by rw [upd_ne ba, upd_ne bd, upd_ne ba]
      refine q1 _ _ _ τ _ le (Nat.le_refl _) rh2 ((rs.mono m1.le m1.len).mono le (Nat.le_refl _)) ⟨rfl, d, _, rfl, upd_same, ?_⟩
      exact RepF.cons (ry.mono le (Nat.le_refl _)) RepF.nil
theorem S1.raise2 {f f' : Str} {e2 : Expr} (T : OexC X.K (c C)) (iC : PySem.W.findIn X.K (.ref (c C)) "__init__" = some (some (.ref fI))) (tI : PySem.W.typeIn X.K (.ref fI) = some (.type "function")) (F1 : FnOk X.prog X.w X.K X.mg X.base (L2.CX X.prog X.w) k fI fd ps (spX2 (c C) f f'))
    (hr : Room (k + 1) X.A) (hb : Binds X.K fd ps []) (hx : Passes (L2.CX X.prog X.w) X (fun _ _ _ => False)) (hg : Gl X x) (hm : X.mg x = some (.ref (c C))) (ha : SA c X W [e, e2] ms) (hc : X.calm = true) (tk : Takes X W)
    (hdb : (x == ("__debug__" : Str)) = false := by decide) (he : starEach [e, e2] X.env = (false, eval e X.env) :: starEach [e2] X.env := by rfl) (hpl : (backTo pos (starEach [e2] X.env)).any (·.1) = false := by rfl) :
    S1 c X W (.Raise (some (.Call (.Name x p) [e, e2] [] pos)) none pos') (sRaise C [f, f'] ms) := by
  obtain ⟨la, t, pa, s⟩ := ha
  refine ⟨_, ps_raise hc tk (pmk_oex T iC tI F1 hr hb .nil hx hg hm pa hdb he hpl), fun g σ h τ H D rs rh q => s g σ h τ H _ rs rh ?_⟩
  have q := PostS.then (R := Reps (kx c X)) rs q
  have ln := fun xs h' => la σ h xs h'
  generalize ms σ h = res at q ln
  cases res with
  | exc e' h' => exact q
  | bad => exact q
  | ok xs h' =>
    intro g0 us H1 l0 hn0 rh0 ru0
    obtain ⟨g1, ys, h1, m1, q1⟩ := q g0 us H1 l0 hn0 rh0 ru0
    have lu := m1.rep.length
    have l1 : us.length = 2 := ru0.length.trans (ln xs h' rfl)
    obtain ⟨u, u', rfl⟩ : ∃ u u', us = [u, u'] := len2 l1
    obtain ⟨y, y', rfl⟩ : ∃ y y', ys = [y, y'] := len2 (lu.symm.trans l1)
    obtain ⟨_, _, e1, ry, ry'⟩ := m1.rep.two
    cases e1
    refine ⟨by simp, fun a na => ⟨a, u, u', rfl, upd_same, fun d nd hda => ⟨rfl, d, [(f', u'), (f, u)], ?_, upd_same, ?_, ?_⟩⟩⟩
    · rw [upd_ne hda.symm, upd_same]
    · rw [upd_ne hda] at nd; exact nd
    · rw [upd_ne hda] at nd
      obtain ⟨le, rh2⟩ := RelH.xd (a := a) (d := d) (fs := [(f', u'), (f, u)]) (H2 := upd (upd (upd (upd H1 a (exo a (c C) none)) d (exd d [(f, u)])) a (exo a (c C) (some d))) d (exd d [(f', u'), (f, u)])) m1.rel na nd fun b ba bd => by rw [upd_ne bd, upd_ne ba, upd_ne bd, upd_ne ba]
      refine q1 _ _ _ τ _ le (Nat.le_refl _) rh2 ((rs.mono m1.le m1.len).mono le (Nat.le_refl _)) ⟨rfl, d, _, rfl, upd_same, ?_⟩
      exact RepF.cons (ry'.mono le (Nat.le_refl _)) (RepF.cons (ry.mono le (Nat.le_refl _)) RepF.nil)
end
end
end Pm
namespace Pm
open PySem PySem.Spec L2 PyProof.Rows

/-! ### the __init__ of an own exception: one, two fields -/
theorem initX1 {K : PySem.W.Frag} {C : Addr} {f : Str} {N : List Str} {vs : List V} {H : Hp} {Q : VK} {E : XK} (T : OexC K C) (no : PySem.W.findIn K (.ref C) f = some none) (hN : N.length = 2) (h : spX1 C f vs H Q E) :
    tOst K f (tVar 0) (tVar 1) { nx := fun _ H' => Q .non H', rt := Q } (L2.start N vs) H := by
  obtain ⟨a, w, rfl, ea, q⟩ := h
  have e : L2.start N [V.ref a, w] = [some (.ref a), some w] := by unfold L2.start; rw [hN]; rfl
  rw [e]
  exact ⟨w, rfl, .ref a, rfl, a, C, rfl, T, no, .inl ⟨ea, fun d nd ne => q d nd ne⟩⟩
theorem initX2 {K : PySem.W.Frag} {C : Addr} {f f' : Str} {N : List Str} {vs : List V} {H : Hp} {Q : VK} {E : XK} (T : OexC K C) (no : PySem.W.findIn K (.ref C) f = some none) (no' : PySem.W.findIn K (.ref C) f' = some none) (hN : N.length = 3) (h : spX2 C f f' vs H Q E) :
    tSeq (tOst K f (tVar 0) (tVar 1)) (tOst K f' (tVar 0) (tVar 2)) { nx := fun _ H' => Q .non H', rt := Q } (L2.start N vs) H := by
  obtain ⟨a, w, w', rfl, ea, q⟩ := h
  have e : L2.start N [V.ref a, w, w'] = [some (.ref a), some w, some w'] := by unfold L2.start; rw [hN]; rfl
  rw [e]
  refine ⟨w, rfl, .ref a, rfl, a, C, rfl, T, no, .inl ⟨ea, fun d nd ne => ?_⟩⟩
  refine ⟨w', rfl, .ref a, rfl, a, C, rfl, T, no', .inr ⟨d, [(f, w)], upd_same, ?_, by simp, q d nd ne⟩⟩
  rw [upd_ne ne, upd_same]

/-! ### the law's end -/
/-- what stands of an abstract heap in which nothing but the script may be tracked -/
theorem law_go {P : Program} {w : World} {K : PySem.W.Frag} {mg mb : Str → Option Value} {k : Nat} {fa a : Addr} {fd : FuncData} {x : Str} {sp : Sp} {s₁ : Shared} {vs : List Value} {G : Hp}
    (KX : K.In s₁.heap) (hns : s₁.heap.Ns mainGlobals mg) (hb : s₁.heap.Ns builtinsNs mb) (hbb : ∀ x : Str, x ≠ "__name__" → mb x = bootBuiltins x) (hlim : s₁.heap.NoLimit) (hg : s₁.gens = #[])
    (ha : s₁.heap.get? a = some { cls := .type "list", data := .seq vs.toArray }) (hr : Room k callerA)
    (F : ∀ base : Heap, K.In base → base.Ns mainGlobals mg → FnG P w K mg base k fa fd [x] sp) (hbind : ∀ (s : Shared) (u : Value), BindsTo s fd ⟨[u], []⟩ [(x, u)])
    (hO : Only G) (hok : HOk P w G s₁.heap) (hA : ∀ b, G b ≠ none → b = a) (hK : G a ≠ none → K.lookup a = none)
    (hsp : sp [.ref a] G (fun v _ => v = .bl true) fun _ _ _ => False) :
    codeAny (model P w) callerA (.call (.ref fa) ⟨[.ref a], []⟩) (fun r s' => r = .ok (.ret (.bool true)) ∧ OldK s₁.heap s'.heap ∧ s'.os = s₁.os ∧ AllBare s'.gens) s₁ := by
  have seen : ∀ {b : Addr} {o : Obj}, s₁.heap.get? b = some o → G b = none → (hidT s₁.heap G).get? b = some o := fun e n => hidT_get e n
  have isA : ∀ {b : Addr} {u : HO}, G b = some u → b = a := fun {b u} z => hA b (by rw [z]; exact fun y => by cases y)
  have dictOut : ∀ {b : Addr} {o : Obj} {es : Array DictEntry} {ep : Nat}, s₁.heap.get? b = some o → o.data = .dict es ep → G b = none := fun {b o es ep} e d => by
    cases z : G b with
    | none => rfl
    | some u =>
      obtain rfl := isA z
      rw [ha] at e; cases e
      exact nomatch (show Data.seq vs.toArray _ = Data.dict es ep from d)
  have ns' : ∀ {b : Addr} {m : Str → Option Value}, s₁.heap.Ns b m → (hidT s₁.heap G).Ns b m := fun {b m} ⟨o, es, ep, e, d, r⟩ => ⟨o, es, ep, seen e (dictOut e d), d, r⟩
  have inK : K.In (hidT s₁.heap G) := fun b o e => seen (KX b o e) (by
    cases z : G b with
    | none => rfl
    | some u =>
      obtain rfl := isA z
      rw [hK (by rw [z]; exact fun y => by cases y)] at e; cases e)
  have md : Mod K mg (hidT s₁.heap G) := ⟨inK, ns' hns, ⟨mb, ns' hb, hbb⟩, let ⟨mc, h1, h2⟩ := hlim; ⟨mc, ns' h1, h2⟩⟩
  have env0 : Env0 P w K mg (hidT s₁.heap G) callerA [] s₁ G := ⟨rfl, md, fun b o e => of_hidT e, Nat.le_of_eq (hidT_size _ _), trivial, fun b hb => absurd (show b ∈ ([] : List Addr) from hb) (by simp), hok, .of_eq hg⟩
  refine codeAny_mono ((F _ inK (ns' hns)).run callerA [] s₁ G ⟨[.ref a], []⟩ [.ref a] [.ref a] _ _ hr rfl env0 (hbind s₁ (.ref a)) (.cons rfl .nil) hsp) fun r s' out => ?_
  cases r with
  | error e =>
    obtain ⟨_, _, _, _, _, _, _, _, _, _, _, _, z⟩ := out
    exact z.elim
  | ok fl =>
    cases fl with
    | next => exact out.elim
    | brk => exact out.elim
    | cont => exact out.elim
    | ret u =>
      obtain ⟨v, H', os, bare, un, hok', rv, rfl⟩ := out
      obtain rfl : u = Value.bool true := rv
      refine ⟨rfl, OldK.of_keep fun b o e => ?_, os, bare⟩
      cases z : G b with
      | none => exact un.keep b o e z (by intro y; exact absurd (show b ∈ ([] : List Addr) from y) (by simp)) (by simp)
      | some u =>
        rcases hO b with y | ⟨ob, xs, y⟩
        · rw [z] at y; cases y
        · obtain ⟨e1, _⟩ := hok b _ y
          obtain ⟨e2, _⟩ := hok' b _ (un.frzs b ob _ y)
          rw [e] at e1; cases e1
          exact e2
/-- the plain law: the law's function says True of every script -/
def PlainLaw (m : List PV → VH → Res PV) : Prop := ∀ ns : List Int, ns.length ≤ 63 → (∀ z ∈ ns, Builtin.Int.intBits z ≤ 1048576) → ∃ h', m [.scr (ns.map PV.int)] [] = .ok (.bl true) h'
theorem plain_sp {K : Kc} {H : Hp} {a : Addr} {ns : List Int} {m : List PV → VH → Res PV} (hx : K.ex = none) (L : PlainLaw m) (hl : ns.length ≤ 63) (hb : ∀ z ∈ ns, Builtin.Int.intBits z ≤ 1048576) (hS : SqL K.K H a (ns.map V.int)) :
    spOf K 1 m [.ref a] H (fun v _ => v = .bl true) fun _ _ _ => False := by
  obtain ⟨h', e⟩ := L ns hl hb
  let g : Gh := ⟨H, fun _ => 0, fun _ => none⟩
  have rh : RelH K g [] H := ⟨Same.refl _, (fun i o z => by simp at z), (fun i o z => by simp at z), (fun i j o p z => by simp at z), (fun a o z => by cases (show (none : Option HO) = some o from z)), fun a dd e z => by rw [hx] at z; cases z⟩
  refine ⟨g, [], [.scr (ns.map PV.int)], rfl, Reps.cons ?_ Reps.nil, rh, ?_⟩
  · simp only [Rep]
    exact ⟨a, ns.map V.int, rfl, hS, Reps.ints ns⟩
  · rw [e]
    intro g' u H' l hn rh' r
    simpa only [Rep] using r
theorem law_end {l : PySem.W.OpenLaw} {n k : Nat} {q : Program} {loose : List Str} {XP : (Str → Option Value) → Heap → Prop} {YP : World → Heap → Prop} {d : DefRec} {K : Params → PySem.W.Frag} {x : Str} {m : List PV → VH → Res PV}
    (hn : l.most = some n) (hn2 : n ≤ 63) (hdf : d.params.defaults = []) (hr : Room k callerA)
    (hY : ∀ (w : World) (h : Heap), YP w h → (K w.params).In h)
    (F : ∀ (w : World) (mg : Str → Option Value) (fa : Addr) (h : Heap), (K w.params).In h → h.Ns mainGlobals mg → mg d.name = some (.ref fa) →
      ∃ (c : Ck) (fd : FuncData), c.ex = none ∧ (∀ (s : Shared) (u : Value), BindsTo s fd ⟨[u], []⟩ [(x, u)]) ∧
        ∀ base : Heap, (K w.params).In base → base.Ns mainGlobals mg → FnS c l.prog w (K w.params) mg base k fa fd [x] m)
    (L : PlainLaw m) : PySem.W.WalkO q loose XP YP l.row.toRowW d [] (fun f vs => PySem.call f vs) := by
  refine Att.attach_callB hn hdf fun w s₀ s₁ mg mb fa o pm cd doc a vs ns G Y ho hd hcd hmg hobj hints hlen hbits hg => ?_
  have KX := hY w _ Y
  obtain ⟨c, fd, hx, hb, hF⟩ := F w mg fa _ KX G.T.g hmg
  have lenV := hints.length
  have l63 : ns.length ≤ 63 := Nat.le_trans hlen hn2
  have rv := vals_ints hints
  cases hk : (K w.params).lookup a with
  | some ob =>
    have e := KX a ob hk
    rw [hobj] at e
    cases e
    have hS : SqL (K w.params) (fun _ => none) a (ns.map V.int) := .inr ⟨_, vs.toArray, _, hk, rfl, rfl, rfl, by rw [List.size_toArray, lenV, sizeLine_eq]; omega, by simpa using rv⟩
    exact law_go KX G.T.g G.T.b G.T.builtins G.T.nolimit hg hobj hr (fun base b1 b2 => (hF base b1 b2).ok) hb (fun _ => .inl rfl) (fun b u z => by cases (show (none : Option HO) = some u from z)) (fun b z => absurd rfl z) (fun z => absurd rfl z) (plain_sp hx L l63 hbits hS)
  | none =>
    let H : Hp := fun b => if b = a then some (.frz { cls := .type "list", data := .seq vs.toArray } (.lst (ns.map V.int))) else none
    have hS : SqL (K w.params) H a (ns.map V.int) := .inl (.inr ⟨{ cls := .type "list", data := .seq vs.toArray }, if_pos rfl⟩)
    refine law_go (G := H) KX G.T.g G.T.b G.T.builtins G.T.nolimit hg hobj hr (fun base b1 b2 => (hF base b1 b2).ok) hb (fun b => ?_) (fun b u z => ?_) (fun b z => ?_) (fun _ => hk) (plain_sp hx L l63 hbits hS)
    · by_cases hba : b = a
      · exact .inr ⟨_, _, if_pos hba⟩
      · exact .inl (if_neg hba)
    · by_cases hba : b = a
      · subst hba
        cases (if_pos rfl).symm.trans z
        exact ⟨hobj, by rw [List.length_map, sizeLine_eq]; omega, vs, _, rv, hobj⟩
      · cases (if_neg hba).symm.trans z
    · by_cases hba : b = a
      · exact hba
      · exact absurd (if_neg hba) z
end Pm
namespace Pm
open PySem PySem.Spec L2 PyProof.Rows

/-! ### a cell that is written no more -/
def frzP : PV → VH → Res PV
  | .ref i, h => match h[i]? with
    | some (.lst xs) => .ok (.lst xs) (h.set i .dead)
    | some (.ins C fs) => .ok (.ins C fs) (h.set i .dead)
    | _ => .ok (.ref i) h
  | v, h => .ok v h
theorem frzP_lst {i : Nat} {xs : List PV} {h : VH} (e : h[i]? = some (.lst xs)) : frzP (.ref i) h = .ok (.lst xs) (h.set i .dead) := by simp [frzP, e]
theorem frzP_ins {i C : Nat} {fs : List (Str × PV)} {h : VH} (e : h[i]? = some (.ins C fs)) : frzP (.ref i) h = .ok (.ins C fs) (h.set i .dead) := by simp [frzP, e]
@[simp] theorem frzP_last (xs : List PV) (h : VH) : frzP (.ref h.length) (h ++ [.lst xs]) = .ok (.lst xs) (h ++ [.dead]) := by
  rw [frzP_lst (xs := xs) (by simp)]; simp
@[simp] theorem frzP_lastI (C : Nat) (fs : List (Str × PV)) (h : VH) : frzP (.ref h.length) (h ++ [.ins C fs]) = .ok (.ins C fs) (h ++ [.dead]) := by
  rw [frzP_ins (C := C) (fs := fs) (by simp)]; simp
section
variable {c : Ck} {X : Cx} {W : WX} {pos : Pos} {e : Expr} {m : EM}
theorem RelH.die {K : Kc} {g : Gh} {h : VH} {H : Hp} {i : Nat} {p : PO} {u : HO} (r : RelH K g h H) (e : h[i]? = some p) (d : p ≠ .dead) (hu : H (g.ρ i) = some u) :
    g.le h.length { g with Hf := upd g.Hf (g.ρ i) u } ∧ RelH K { g with Hf := upd g.Hf (g.ρ i) u } (h.set i .dead) H := by
  have nf : g.Hf (g.ρ i) = none := r.sep i p e d
  have le : g.le h.length { g with Hf := upd g.Hf (g.ρ i) u } := ⟨fun b w z => (upd_ne (ne_of_none z nf)).trans z, fun _ _ => rfl, rfl⟩
  have hi : i < h.length := (List.getElem?_eq_some_iff.mp e).1
  have old : ∀ {j q}, (h.set i PO.dead)[j]? = some q → q ≠ PO.dead → j ≠ i ∧ h[j]? = some q := fun {j q} z dq => by
    by_cases hj : i = j
    · subst hj
      rw [List.getElem?_set_self hi] at z
      cases z; exact absurd rfl dq
    · rw [List.getElem?_set_ne hj] at z
      exact ⟨fun q => hj q.symm, z⟩
  refine ⟨le, fun b w z => ?_, fun j q z dq => ?_, fun j q z dq => ?_, fun j k q q' z dq z' dq' er => ?_, fun b w z => ?_, fun a2 dd e2 z => let ⟨gs, e3, e4⟩ := r.ex a2 dd e2 z; ⟨gs, le.same _ _ e3, by rw [List.length_set]; exact e4.mono le (Nat.le_refl _)⟩⟩
  · have z : upd g.Hf (g.ρ i) u b = some w := z
    by_cases hb : b = g.ρ i
    · subst hb; rw [upd_same] at z; cases z; exact hu
    · rw [upd_ne hb] at z; exact r.same b w z
  · obtain ⟨nj, z⟩ := old z dq
    obtain ⟨u', hu', ru⟩ := r.cell j q z dq
    exact ⟨u', hu', by rw [List.length_set]; exact ru.mono le (Nat.le_refl _)⟩
  · obtain ⟨nj, z⟩ := old z dq
    show upd g.Hf (g.ρ i) u (g.ρ j) = none
    rw [upd_ne fun y => nj (r.inj j i q p z dq e d y)]
    exact r.sep j q z dq
  · obtain ⟨_, z⟩ := old z dq
    obtain ⟨_, z'⟩ := old z' dq'
    exact r.inj j k q q' z dq z' dq' er
  · obtain ⟨h1, h2, h3⟩ := r.fr b w z
    have nb : b ≠ g.ρ i := fun y => h3 i p e d y.symm
    refine ⟨h1, by show upd g.Hf (g.ρ i) u b = none; rw [upd_ne nb]; exact h2, fun j q z dq => ?_⟩
    obtain ⟨_, z⟩ := old z dq
    exact h3 j q z dq
theorem frz_run {K : Kc} {g : Gh} {h : VH} {H : Hp} {x : PV} {u : V} {Q : VK} {E : XK} (rx : Rep K g h.length x u) (rh : RelH K g h H) (p : Post K (Rep K) g h.length Q E (frzP x h)) : Q u H := by
  unfold frzP at p
  split at p
  · rename_i i
    simp only [Rep] at rx
    split at p
    · rename_i xs e
      obtain ⟨o, ho, us, rfl, r⟩ := rh.cell i _ e (by intro z; cases z)
      obtain ⟨le, rh2⟩ := rh.die e (by intro z; cases z) ho
      refine p _ u H le (by simp) rh2 ?_
      simp only [Rep]
      exact ⟨g.ρ i, us, rx.2, upd_same, by rw [List.length_set]; exact r.mono le (Nat.le_refl _)⟩
    · rename_i C fs e
      obtain ⟨o, ho, dx, gs, rfl, r⟩ := rh.cell i _ e (by intro z; cases z)
      obtain ⟨le, rh2⟩ := rh.die e (by intro z; cases z) ho
      refine p _ u H le (by simp) rh2 ?_
      simp only [Rep]
      exact ⟨g.ρ i, dx, gs, rx.2, upd_same, by rw [List.length_set]; exact r.mono le (Nat.le_refl _)⟩
    · exact p.go rh (by simp only [Rep]; exact rx)
  · exact p.go rh rx
def eFrz (m : EM) : EM := fun σ h => (m σ h).bind frzP
theorem SE.frz (he : SE c X W e m) : SE c X W e (eFrz m) := by
  obtain ⟨t, p, s⟩ := he
  refine ⟨t, p, fun g σ h τ H Q rs rh q => ?_⟩
  exact s g σ h τ H _ rs rh ((Post.bind q).imp (fun u H1 ⟨g1, x, h1, m1, q1⟩ => frz_run m1.rep m1.rel q1) fun _ _ _ z => z)
/-- what was made on the way is let go -/
noncomputable def eGc (m : EM) : EM := fun σ h => (m σ h).bind fun v h1 => gc h v h1
theorem SE.gc (he : SE c X W e m) : SE c X W e (eGc m) := by
  obtain ⟨t, p, s⟩ := he
  refine ⟨t, p, fun g σ h τ H Q rs rh q => ?_⟩
  refine s g σ h τ H Q rs rh ?_
  dsimp only [eGc] at q
  generalize m σ h = res at q ⊢
  cases res with
  | ok v h' => exact fun g' u H' l hn rh' r => Post.gc (P := True) rh q g' u H' l hn rh' r
  | exc e' h' => exact q
  | bad => exact q
noncomputable def eFz (m : EM) : EM := eGc (eFrz m)
theorem SE.fz (he : SE c X W e m) : SE c X W e (eFz m) := SE.gc (SE.frz he)
/-! ### += of ints -/
abbrev iaddP : PV → PV → VH → Res PV := int2' fun i j => .int (i + j)
theorem iaddS : OpS c X (rI0 fun i j => .int (i + j)) iaddP := OpS.i2' fun _ _ _ _ _ => repI
theorem iop_addI : PIp X .Add (rI0 fun i j => .int (i + j)) := iop_add
abbrev isubP : PV → PV → VH → Res PV := int2' fun i j => .int (i - j)

/-- a number of the module -/
theorem SE.globI {x : Str} {i : Int} (hg : Gl X x) (hm : ∃ t, X.mg x = some (.int i t)) (hd : (x == ("__debug__" : Str)) = false := by decide) : SE c X W (.Name x pos) (eC (.int i)) := by
  obtain ⟨t, e⟩ := hm
  exact SE.glob (v := .int i) hg e ⟨t, rfl⟩ (fun _ _ => repI) hd
/-! ### a def's facts -/
structure Fd (K : PySem.W.Frag) (mg : Str → Option Value) (x qual : Str) (st : Stmt) (ps : List Str) (f : Addr) (fd : FuncData) : Prop where
  F : Fun K x qual st f fd
  b : Binds K fd ps []
  m : mg x = some (.ref f)
theorem Fd.mk' {K : PySem.W.Frag} {h : Heap} {mg : Str → Option Value} {x qual : Str} {st : Stmt} {ps : List Str} {f : Addr} {oc : Value} {od an : Option Addr} {osl : Array (Option Value)} {kV doc pm cdv ct : Value} (X : K.In h) (G : h.Ns mainGlobals mg) (a : PySem.W.nsIn K mainGlobals x = some (some (.ref f)))
    (l : K.lookup f = some ⟨oc, od, .func (PySem.W.fnOf x qual (defArgs st) (defBody st) (defScope st) .none kV doc pm an cdv ct), osl⟩)
    (k1 : PySem.W.codeIn K cdv qual = true) (k2 : PySem.W.keepIn K (.ref f) = true)
    (hb : ∀ (kV doc pm : Value) (an : Option Addr) (cdv ct : Value) (us : List Value), us.length = ps.length → bindArgs (PySem.W.fnOf x qual (defArgs st) (defBody st) (defScope st) .none kV doc pm an cdv ct) ⟨us, []⟩ = pure (ps.zip us)) :
    Fd K mg x qual st ps f (PySem.W.fnOf x qual (defArgs st) (defBody st) (defScope st) .none kV doc pm an cdv ct) := by
  have F := fun_mk (st := st) l k1 k2
  exact ⟨F, F.binds hb, PySem.W.mg_of X G a⟩
/-- an own exception class with its __init__ -/
structure Xc (K : PySem.W.Frag) (mg : Str → Option Value) (x qual : Str) (st : Stmt) (ps : List Str) (C f : Addr) (fd : FuncData) : Prop where
  F : Fun K "__init__" qual st f fd
  b : Binds K fd ps []
  m : mg x = some (.ref C)
  T : OexC K C
  i : PySem.W.findIn K (.ref C) "__init__" = some (some (.ref f))
  t : PySem.W.typeIn K (.ref f) = some (.type "function")
/-- the pieces of class C's text -/
theorem oex_mk {K : PySem.W.Frag} {C : Addr} {nm q : Str} {N : Addr} {bs : List Value} {sn : List Str} {sub : List Value} {ab : Bool} {col : Option Bool} {dd : Option Addr} {m0 m1 m2 m3 m5 : Option Value} {bm : List Value}
    (l : K.lookup C = some (excClassObj nm q C N bs bm true sn sub ab col dd m0 m1 m2 m3 m5 "ValueError.__new__")) (hb : PySem.HandSPX.refsVE bm = true)
    (sa : PySem.W.findIn K (.ref C) "__setattr__" = some (some (.builtin "object.__setattr__"))) (eC : PySem.W.subIn K (.ref C) (.type "BaseException") = some true) (tC : PySem.W.typeIn K (.ref C) = some (.type "type")) (kC : PySem.W.keepIn K (.ref C) = true) : OexC K C :=
  ⟨⟨nm, q, N, bs, bm, sn, sub, ab, col, dd, m0, m1, m2, m3, m5, l, hb⟩, sa, eC, tC, kC⟩
end
end Pm
namespace Pm
open PySem PySem.Spec L2 PyProof.Rows

/-! ### plain steps -/
section
variable {σ : LS} {h : VH} {f f' : PV → PV → VH → Res PV} {g : PV → VH → Res PV} {a b c : EM} {ta tb : TM} {ms : AM} {k : List PV → VH → Res PV} {v : PV} {s t : SM}
@[simp] theorem eVar_def (i : Nat) : eVar i σ h = (match σ[i]? with
  | some (some v) => .ok v h
  | _ => .bad) := (rfl)
@[simp] theorem eC_def : eC v σ h = .ok v h := (rfl)
@[simp] theorem eBin_def : eBin f a b σ h = (a σ h).bind fun x h1 => (b σ h1).bind fun y h2 => f x y h2 := (rfl)
@[simp] theorem eUn_def : eUn g a σ h = (a σ h).bind fun x h1 => g x h1 := (rfl)
@[simp] theorem aNil_def : aNil σ h = .ok [] h := (rfl)
@[simp] theorem aCons_def : aCons a ms σ h = (a σ h).bind fun x h1 => (ms σ h1).bind fun xs h2 => .ok (x :: xs) h2 := (rfl)
@[simp] theorem eCall_def : eCall k ms σ h = (ms σ h).bind fun xs h1 => k xs h1 := (rfl)
@[simp] theorem eAndM_def : eAndM a b σ h = (a σ h).bind fun x h1 => (asB x h1).bind fun c h2 => if c = true then b σ h2 else .ok (.bl false) h2 := (rfl)
@[simp] theorem eOrM_def : eOrM a b σ h = (a σ h).bind fun x h1 => (asB x h1).bind fun c h2 => if c = true then .ok (.bl true) h2 else b σ h2 := (rfl)
@[simp] theorem eNotM_def : eNotM a σ h = (a σ h).bind fun x h1 => (asB x h1).bind fun c h2 => .ok (.bl (!c)) h2 := (rfl)
@[simp] theorem eIfM_def : eIfM ta a b σ h = (ta σ h).bind fun k h1 => if k = true then a σ h1 else b σ h1 := (rfl)
@[simp] theorem eChain_def : eChain f f' a b c σ h = (a σ h).bind fun x h1 => (b σ h1).bind fun y h2 => (f x y h2).bind fun z h3 => (asB z h3).bind fun k h4 => if k = true then (c σ h4).bind fun w h5 => f' y w h5 else .ok (.bl false) h4 := (rfl)
@[simp] theorem eTup_def : eTup ms σ h = (ms σ h).bind fun xs h1 => .ok (.tup xs) h1 := (rfl)
@[simp] theorem eLst_def (cl : Bool) : eLst cl ms σ h = (ms σ h).bind fun xs h1 => mkL cl xs h1 := (rfl)
@[simp] theorem eFrz_def : eFrz a σ h = (a σ h).bind frzP := (rfl)
@[simp] theorem eGc_def : eGc a σ h = (a σ h).bind fun v h1 => gc h v h1 := (rfl)
@[simp] theorem eFz_def : eFz a σ h = ((a σ h).bind frzP).bind fun v h1 => gc h v h1 := (rfl)
@[simp] theorem eSl_def (cl : Bool) (lo hi : LS → VH → Res (Option Int)) : eSl cl a lo hi σ h = (a σ h).bind fun x h1 => (lo σ h1).bind fun l h2 => (hi σ h2).bind fun u h3 => slP cl x l u h3 := (rfl)
@[simp] theorem oNone_def : oNone σ h = .ok none h := (rfl)
@[simp] theorem oSome_def : oSome a σ h = (a σ h).bind asI := (rfl)
@[simp] theorem asB_bl (b : Bool) (h : VH) : asB (.bl b) h = .ok b h := (rfl)
@[simp] theorem tVal_def : tVal a σ h = (a σ h).bind asB := (rfl)
@[simp] theorem tAndM_def : tAndM ta tb σ h = (ta σ h).bind fun c h1 => if c = true then tb σ h1 else .ok false h1 := (rfl)
@[simp] theorem tOrM_def : tOrM ta tb σ h = (ta σ h).bind fun c h1 => if c = true then .ok true h1 else tb σ h1 := (rfl)
@[simp] theorem tNotM_def : tNotM ta σ h = (ta σ h).bind fun c h1 => .ok (!c) h1 := (rfl)
@[simp] theorem tYesM_def : tYesM σ h = .ok true h := (rfl)
@[simp] theorem sNil_def : sNil σ h = .nx σ h := (rfl)
@[simp] theorem sCons_def : sCons s t σ h = (s σ h).bind t := (rfl)
@[simp] theorem sDrop_def : sDrop a σ h = (a σ h).then σ fun _ h1 => .nx σ h1 := (rfl)
@[simp] theorem sRet_def : sRet a σ h = (a σ h).then σ fun v h1 => .rt v h1 := (rfl)
@[simp] theorem sRetN_def : sRetN σ h = .rt .non h := (rfl)
@[simp] theorem sBrk_def : sBrk σ h = .bk σ h := (rfl)
@[simp] theorem sCnt_def : sCnt σ h = .ct σ h := (rfl)
@[simp] theorem sIf_def : sIf ta s t σ h = (ta σ h).then σ fun k h1 => if k = true then s σ h1 else t σ h1 := (rfl)
@[simp] theorem sSet_def (i : Nat) : sSet i a σ h = (a σ h).then σ fun v h1 => .nx (σ.set i (some v)) h1 := (rfl)
@[simp] theorem sAsg_def (gm : GM) : sAsg a gm σ h = (a σ h).then σ fun v h1 => (gm v σ h1).sr := (rfl)
@[simp] theorem gSlot_def (i : Nat) : gSlot i v σ h = .ok (σ.set i (some v)) h := (rfl)
@[simp] theorem gSubM_def : gSubM a b v σ h = ((a σ h).nx).bind fun x h1 => ((b σ h1).nx).bind fun y h2 => ((setP x y v h2).nx).bind fun _ h3 => .ok σ h3 := (rfl)
@[simp] theorem sAug_def (i : Nat) : sAug i a f σ h = (match σ[i]? with
  | some (some x) => (a σ h).then σ fun y h1 => (f x y h1).then σ fun z h2 => .nx (σ.set i (some z)) h2
  | _ => .bad) := (rfl)
@[simp] theorem sRaise_def (C : Nat) (fs : List Str) : sRaise C fs ms σ h = (ms σ h).then σ fun xs h1 => .xc ⟨C, (fs.zip xs).reverse⟩ σ h1 := (rfl)
@[simp] theorem iSeq_def : iSeq a σ h = (a σ h).bind srcSeq := (rfl)
@[simp] theorem iRng_def : iRng ms σ h = (ms σ h).bind srcRng := (rfl)
@[simp] theorem iEnm_def : iEnm ms σ h = (ms σ h).bind srcEnum := (rfl)
@[simp] theorem iRvs_def : iRvs a σ h = (a σ h).bind srcRev := (rfl)
@[simp] theorem sFor_def (src : LS → VH → Res Src) (gm : GM) : sFor src gm s σ h = (src σ h).then σ fun sr h1 => forL sr.ck gm s sr.xs σ h1 := (rfl)
@[simp] theorem eLm_def (k : PV → List PV → VH → Res PV) : eLm k a ms σ h = (a σ h).bind fun x h1 => lstMt x ms σ h1 k := (rfl)
@[simp] theorem eLc_def (cl : Bool) (src : LS → VH → Res Src) (ws : List Nat) (gm : GM) (mt : TM) : eLc cl src ws gm mt a σ h = (src σ h).bind fun s h1 => (compL s.ck ws gm mt a σ s.xs [] h1).bind fun acc h2 => mkL cl acc h2 := (rfl)
theorem ls_g0 (a : Option PV) (l : LS) : (a :: l)[0]? = some a := rfl
theorem ls_gs (a : Option PV) (l : LS) (i : Nat) : (a :: l)[i + 1]? = l[i]? := by simp
theorem ls_s0 (a b : Option PV) (l : LS) : (a :: l).set 0 b = b :: l := (rfl)
theorem ls_ss (a b : Option PV) (l : LS) (i : Nat) : (a :: l).set (i + 1) b = a :: l.set i b := (rfl)
theorem fnRun_go (n : Nat) (m : SM) (args : List PV) (h : VH) {σ : LS} (e : startL n args = σ) : fnRun n m args h = fin h (m σ h) := by rw [← e]; rfl
end

/-! ### comprehensions -/
section
variable {ck : List (Nat × List PV)} {ws : List Nat} {gm : GM} {mt : TM} {me : EM} {σ : LS}
theorem compL_inv (I : Nat → List PV → VH → Prop) {xs : List PV} (step : ∀ i x acc h, xs[i]? = some x → I i acc h → ckOk ck h ∧ ∃ σ2 h2 b h3, gm x (wipeL σ ws) h = .ok σ2 h2 ∧ mt σ2 h2 = .ok b h3 ∧
      (if b = true then ∃ y h4, me σ2 h3 = .ok y h4 ∧ acc.length < 16777216 ∧ I (i + 1) (acc ++ [y]) h4 else I (i + 1) acc h3)) (hd : ∀ acc h, I xs.length acc h → ckOk ck h) :
    ∀ (ys : List PV) (i : Nat) (acc : List PV) (h : VH), xs.drop i = ys → i ≤ xs.length → I i acc h → ∃ acc' h', compL ck ws gm mt me σ ys acc h = .ok acc' h' ∧ I xs.length acc' h'
  | [], i, acc, h, e, hi, q => by
    have : i = xs.length := by have := congrArg List.length e; simp at this; omega
    subst this
    unfold compL
    rw [if_pos (hd _ _ q)]
    exact ⟨acc, h, rfl, q⟩
  | y :: ys, i, acc, h, e, hi, q => by
    have hl : i < xs.length := by have := congrArg List.length e; simp at this; omega
    have e2 := e
    rw [List.drop_eq_getElem_cons hl] at e2
    injection e2 with e3 e4
    obtain ⟨c1, σ2, h2, b, h3, r1, r2, r3⟩ := step i y acc h (by rw [List.getElem?_eq_getElem hl, e3]) q
    unfold compL
    rw [if_pos c1, r1, Res.nx_ok, Res.bind_ok, r2, Res.nx_ok, Res.bind_ok]
    cases b with
    | true =>
      rw [if_pos rfl] at r3
      obtain ⟨z, h4, m1, m2, m3⟩ := r3
      rw [if_pos rfl, m1, Res.nx_ok, Res.bind_ok, if_pos m2]
      exact compL_inv I step hd ys (i + 1) _ h4 e4 hl m3
    | false =>
      rw [if_neg Bool.false_ne_true] at r3
      rw [if_neg Bool.false_ne_true]
      exact compL_inv I step hd ys (i + 1) acc h3 e4 hl r3
theorem compL_filt {p : PV → Bool} {f : PV → PV} {h : VH} (hck : ckOk ck h) : ∀ (xs acc : List PV), (∀ x ∈ xs, ∃ σ2, gm x (wipeL σ ws) h = .ok σ2 h ∧ mt σ2 h = .ok (p x) h ∧ (p x = true → me σ2 h = .ok (f x) h)) → acc.length + xs.length ≤ 16777216 →
    compL ck ws gm mt me σ xs acc h = .ok (acc ++ (xs.filter p).map f) h
  | [], acc, _, _ => by unfold compL; rw [if_pos hck]; simp
  | x :: xs, acc, hx, hl => by
    obtain ⟨σ2, e1, e2, e3⟩ := hx x List.mem_cons_self
    have hr := fun y hy => hx y (List.mem_cons_of_mem _ hy)
    rw [List.length_cons] at hl
    unfold compL
    rw [if_pos hck, e1, Res.nx_ok, Res.bind_ok, e2, Res.nx_ok, Res.bind_ok]
    cases hp : p x with
    | true =>
      rw [if_pos rfl, e3 hp, Res.nx_ok, Res.bind_ok, if_pos (by omega), compL_filt hck xs _ hr (by simp; omega), List.filter_cons_of_pos hp]
      simp
    | false =>
      rw [if_neg Bool.false_ne_true, compL_filt hck xs _ hr (by omega), List.filter_cons_of_neg (by rw [hp]; simp)]
theorem compL_map {f : PV → PV} {h : VH} (hck : ckOk ck h) (xs : List PV) (hx : ∀ x ∈ xs, ∃ σ2, gm x (wipeL σ ws) h = .ok σ2 h ∧ mt σ2 h = .ok true h ∧ me σ2 h = .ok (f x) h) (hl : xs.length ≤ 16777216) :
    compL ck ws gm mt me σ xs [] h = .ok (xs.map f) h := by
  rw [compL_filt (p := fun _ => true) (f := f) hck xs [] (fun x hm => by obtain ⟨s, a, b, c⟩ := hx x hm; exact ⟨s, a, b, fun _ => c⟩) (by simpa using hl)]
  rw [List.filter_eq_self.mpr fun _ _ => rfl]; rfl
/-- over numbers, to numbers -/
theorem compL_ints {f : Int → Int} {ns : List Int} {h : VH} (hck : ckOk ck h) (hx : ∀ n ∈ ns, ∃ σ2, gm (.int n) (wipeL σ ws) h = .ok σ2 h ∧ mt σ2 h = .ok true h ∧ me σ2 h = .ok (.int (f n)) h) (hl : ns.length ≤ 16777216) :
    compL ck ws gm mt me σ (ns.map PV.int) [] h = .ok ((ns.map f).map PV.int) h := by
  rw [compL_map (f := fun x => match x with | .int n => .int (f n) | x => x) hck _ (fun x hm => ?_) (by simpa using hl)]
  · rw [List.map_map, List.map_map]; rfl
  · obtain ⟨n, hn, rfl⟩ := List.mem_map.mp hm
    exact hx n hn
theorem compL_bls {f : Int → Bool} {ns : List Int} {h : VH} (hck : ckOk ck h) (hx : ∀ n ∈ ns, ∃ σ2, gm (.int n) (wipeL σ ws) h = .ok σ2 h ∧ mt σ2 h = .ok true h ∧ me σ2 h = .ok (.bl (f n)) h) (hl : ns.length ≤ 16777216) :
    compL ck ws gm mt me σ (ns.map PV.int) [] h = .ok ((ns.map f).map PV.bl) h := by
  rw [compL_map (f := fun x => match x with | .int n => .bl (f n) | x => x) hck _ (fun x hm => ?_) (by simpa using hl)]
  · rw [List.map_map, List.map_map]; rfl
  · obtain ⟨n, hn, rfl⟩ := List.mem_map.mp hm
    exact hx n hn
end

/-! ### for, while -/
/-- a turn's outcome: on, or out -/
def Turn' (I : LS → VH → Prop) (R : SR → Prop) : SR → Prop
  | .nx σ h => I σ h
  | .ct σ h => I σ h
  | .bk σ h => R (.nx σ h)
  | .rt v h => R (.rt v h)
  | .xc e σ h => R (.xc e σ h)
  | .bad => False
section
variable {I : LS → VH → Prop} {R : SR → Prop}
@[simp] theorem Turn'_nx (σ : LS) (h : VH) : Turn' I R (.nx σ h) ↔ I σ h := Iff.rfl
@[simp] theorem Turn'_ct (σ : LS) (h : VH) : Turn' I R (.ct σ h) ↔ I σ h := Iff.rfl
@[simp] theorem Turn'_bk (σ : LS) (h : VH) : Turn' I R (.bk σ h) ↔ R (.nx σ h) := Iff.rfl
@[simp] theorem Turn'_rt (v : PV) (h : VH) : Turn' I R (.rt v h) ↔ R (.rt v h) := Iff.rfl
@[simp] theorem Turn'_xc (e : PX) (σ : LS) (h : VH) : Turn' I R (.xc e σ h) ↔ R (.xc e σ h) := Iff.rfl
end
theorem forL_inv {ck : List (Nat × List PV)} {gm : GM} {body : SM} {R : SR → Prop} (I : Nat → LS → VH → Prop) {xs : List PV}
    (step : ∀ i x σ h, xs[i]? = some x → I i σ h → ckOk ck h ∧ ∃ σ1 h1, gm x σ h = .ok σ1 h1 ∧ Turn' (I (i + 1)) R (body σ1 h1)) (hd : ∀ σ h, I xs.length σ h → ckOk ck h ∧ R (.nx σ h)) :
    ∀ (ys : List PV) (i : Nat) (σ : LS) (h : VH), xs.drop i = ys → i ≤ xs.length → I i σ h → R (forL ck gm body ys σ h)
  | [], i, σ, h, e, hi, q => by
    have : i = xs.length := by have := congrArg List.length e; simp at this; omega
    subst this
    obtain ⟨c1, r⟩ := hd σ h q
    unfold forL
    rw [if_pos c1]
    exact r
  | y :: ys, i, σ, h, e, hi, q => by
    have hl : i < xs.length := by have := congrArg List.length e; simp at this; omega
    have e2 := e
    rw [List.drop_eq_getElem_cons hl] at e2
    injection e2 with e3 e4
    obtain ⟨c1, σ1, h1, r1, r2⟩ := step i y σ h (by rw [List.getElem?_eq_getElem hl, e3]) q
    unfold forL
    rw [if_pos c1, r1, Res.sr_ok, SR.bind_nx]
    have ih := fun σ' h' => forL_inv I step hd ys (i + 1) σ' h' e4 hl
    cases hb : body σ1 h1 with
    | nx σ' h' => rw [hb] at r2; exact ih σ' h' r2
    | ct σ' h' => rw [hb] at r2; exact ih σ' h' r2
    | bk σ' h' => rw [hb] at r2; exact r2
    | rt v h' => rw [hb] at r2; exact r2
    | xc e σ' h' => rw [hb] at r2; exact r2
    | bad => rw [hb] at r2; exact r2.elim
theorem for_go {ck : List (Nat × List PV)} {gm : GM} {body : SM} {R : SR → Prop} {xs : List PV} {σ : LS} {h : VH} (I : Nat → LS → VH → Prop) (h0 : I 0 σ h)
    (step : ∀ i x σ h, xs[i]? = some x → I i σ h → ckOk ck h ∧ ∃ σ1 h1, gm x σ h = .ok σ1 h1 ∧ Turn' (I (i + 1)) R (body σ1 h1)) (hd : ∀ σ h, I xs.length σ h → ckOk ck h ∧ R (.nx σ h)) : R (forL ck gm body xs σ h) :=
  forL_inv I step hd xs 0 σ h (by simp) (Nat.zero_le _) h0
theorem comp_go {ck : List (Nat × List PV)} {ws : List Nat} {gm : GM} {mt : TM} {me : EM} {σ : LS} {xs : List PV} {h : VH} (I : Nat → List PV → VH → Prop) (h0 : I 0 [] h) (step : ∀ i x acc h, xs[i]? = some x → I i acc h → ckOk ck h ∧ ∃ σ2 h2 b h3, gm x (wipeL σ ws) h = .ok σ2 h2 ∧ mt σ2 h2 = .ok b h3 ∧
      (if b = true then ∃ y h4, me σ2 h3 = .ok y h4 ∧ acc.length < 16777216 ∧ I (i + 1) (acc ++ [y]) h4 else I (i + 1) acc h3)) (hd : ∀ acc h, I xs.length acc h → ckOk ck h) :
    ∃ acc' h', compL ck ws gm mt me σ xs [] h = .ok acc' h' ∧ I xs.length acc' h' := compL_inv I step hd xs 0 [] h (by simp) (Nat.zero_le _) h0
/-- a while: the measure falls -/
theorem while_go {t : TM} {body : SM} {R : SR → Prop} (I : LS → VH → Prop) (μ : LS → VH → Nat)
    (step : ∀ σ h, I σ h → ∃ b h1, t σ h = .ok b h1 ∧ (if b = true then Turn' (fun σ' h' => I σ' h' ∧ μ σ' h' < μ σ h) R (body σ h1) else R (.nx σ h1))) :
    ∀ (n : Nat) (σ : LS) (h : VH), I σ h → μ σ h < n → R (whileL t body n σ h)
  | 0, _, _, _, hn => absurd hn (Nat.not_lt_zero _)
  | n + 1, σ, h, q, hn => by
    obtain ⟨b, h1, e1, r⟩ := step σ h q
    unfold whileL
    rw [e1, Res.then_ok]
    cases b with
    | false => rw [if_neg Bool.false_ne_true] at r ⊢; exact r
    | true =>
      rw [if_pos rfl] at r ⊢
      have ih := fun σ' h' (z : I σ' h' ∧ μ σ' h' < μ σ h) => while_go I μ step n σ' h' z.1 (by omega)
      cases hb : body σ h1 with
      | nx σ' h' => rw [hb] at r; exact ih σ' h' r
      | ct σ' h' => rw [hb] at r; exact ih σ' h' r
      | bk σ' h' => rw [hb] at r; exact r
      | rt v h' => rw [hb] at r; exact r
      | xc e σ' h' => rw [hb] at r; exact r
      | bad => rw [hb] at r; exact r.elim

/-! ### conditional operators, ready for simp -/
@[simp] theorem modP_pos {i j : Int} {h : VH} (z : 0 < j) : modP (.int i) (.int j) h = .ok (.int (i % j)) h := int2_ok z
@[simp] theorem divP_pos {i j : Int} {h : VH} (z : 0 < j) (z' : j < 1073741824) : divP (.int i) (.int j) h = .ok (.int (i / j)) h := int2_ok (divC_small z z')
theorem mulP_r {cl : Bool} {i j : Int} {h : VH} (z : -(2 ^ 64) < j) (z' : j < 2 ^ 64) : mulP cl (.int i) (.int j) h = .ok (.int (i * j)) h := mulP_int (MulC.right z z')
theorem mulP_l {cl : Bool} {i j : Int} {h : VH} (z : -(2 ^ 64) < i) (z' : i < 2 ^ 64) : mulP cl (.int i) (.int j) h = .ok (.int (i * j)) h := mulP_int (MulC.left z z')
theorem ixP_tup {xs : List PV} {h : VH} {i : Int} {v : PV} (z : 0 ≤ i) (a : xs[i.toNat]? = some v) : ixP (.tup xs) (.int i) h = .ok v h := ixP_seq (seqOf_tup xs h) (by rw [atI_pos z]; exact a)
theorem ixP_lst {xs : List PV} {h : VH} {i : Int} {v : PV} (z : 0 ≤ i) (a : xs[i.toNat]? = some v) : ixP (.lst xs) (.int i) h = .ok v h := ixP_seq (seqOf_lst xs h) (by rw [atI_pos z]; exact a)
theorem ixP_scr {xs : List PV} {h : VH} {i : Int} {v : PV} (z : 0 ≤ i) (a : xs[i.toNat]? = some v) : ixP (.scr xs) (.int i) h = .ok v h := ixP_seq (seqOf_scr xs h) (by rw [atI_pos z]; exact a)
theorem ixP_ref {k : Nat} {xs : List PV} {h : VH} {i : Int} {v : PV} (e : h[k]? = some (.lst xs)) (z : 0 ≤ i) (a : xs[i.toNat]? = some v) : ixP (.ref k) (.int i) h = .ok v h := ixP_seq (seqOf_ref e) (by rw [atI_pos z]; exact a)
/-! ### isinstance, plain -/
section
variable {t : Tab} {h : VH}
@[simp] theorem isi_int_int (i : Int) : isiP t [.int i, .ty "int"] h = .ok (.bl true) h := (rfl)
@[simp] theorem isi_int_bool (i : Int) : isiP t [.int i, .ty "bool"] h = .ok (.bl false) h := (rfl)
@[simp] theorem isi_int_tup (i : Int) : isiP t [.int i, .ty "tuple"] h = .ok (.bl false) h := (rfl)
@[simp] theorem isi_int_str (i : Int) : isiP t [.int i, .ty "str"] h = .ok (.bl false) h := (rfl)
@[simp] theorem isi_bl_int (i : Bool) : isiP t [.bl i, .ty "int"] h = .ok (.bl true) h := (rfl)
@[simp] theorem isi_bl_bool (i : Bool) : isiP t [.bl i, .ty "bool"] h = .ok (.bl true) h := (rfl)
@[simp] theorem isi_bl_tup (i : Bool) : isiP t [.bl i, .ty "tuple"] h = .ok (.bl false) h := (rfl)
@[simp] theorem isi_bl_str (i : Bool) : isiP t [.bl i, .ty "str"] h = .ok (.bl false) h := (rfl)
@[simp] theorem isi_non_int : isiP t [.non, .ty "int"] h = .ok (.bl false) h := (rfl)
@[simp] theorem isi_non_tup : isiP t [.non, .ty "tuple"] h = .ok (.bl false) h := (rfl)
@[simp] theorem isi_non_str : isiP t [.non, .ty "str"] h = .ok (.bl false) h := (rfl)
@[simp] theorem isi_str_int (i : Str) : isiP t [.str i, .ty "int"] h = .ok (.bl false) h := (rfl)
@[simp] theorem isi_str_tup (i : Str) : isiP t [.str i, .ty "tuple"] h = .ok (.bl false) h := (rfl)
@[simp] theorem isi_str_str (i : Str) : isiP t [.str i, .ty "str"] h = .ok (.bl true) h := (rfl)
@[simp] theorem isi_tup_int (i : List PV) : isiP t [.tup i, .ty "int"] h = .ok (.bl false) h := (rfl)
@[simp] theorem isi_tup_tup (i : List PV) : isiP t [.tup i, .ty "tuple"] h = .ok (.bl true) h := (rfl)
@[simp] theorem isi_tup_str (i : List PV) : isiP t [.tup i, .ty "str"] h = .ok (.bl false) h := (rfl)
@[simp] theorem isi_lst_int (i : List PV) : isiP t [.lst i, .ty "int"] h = .ok (.bl false) h := (rfl)
@[simp] theorem isi_lst_tup (i : List PV) : isiP t [.lst i, .ty "tuple"] h = .ok (.bl false) h := (rfl)
@[simp] theorem isi_lst_str (i : List PV) : isiP t [.lst i, .ty "str"] h = .ok (.bl false) h := (rfl)
end
/-- all plain steps, as one rule -/
theorem pmS : type_of% (And.intro @sCons_def (And.intro @sSet_def (And.intro @sIf_def (And.intro @sNil_def (And.intro @sDrop_def (And.intro @sRet_def (And.intro @sRetN_def (And.intro @sBrk_def (And.intro @sCnt_def (And.intro @sAsg_def (And.intro @sAug_def (And.intro @sRaise_def (And.intro @sFor_def (And.intro @gSlot_def (And.intro @gSubM_def (And.intro @gTupM_tup (And.intro @gCons'_cons (And.intro @gNil'_nil (And.intro @eVar_def (And.intro @eC_def (And.intro @eBin_def (And.intro @eUn_def (And.intro @aNil_def (And.intro @aCons_def (And.intro @eCall_def (And.intro @eAndM_def (And.intro @eOrM_def (And.intro @eNotM_def (And.intro @eIfM_def (And.intro @eChain_def (And.intro @eTup_def (And.intro @eLst_def (And.intro @eFrz_def (And.intro @eGc_def (And.intro @eFz_def (And.intro @eSl_def (And.intro @oNone_def (And.intro @oSome_def (And.intro @asB_bl (And.intro @asI_int (And.intro @tVal_def (And.intro @tAndM_def (And.intro @tOrM_def (And.intro @tNotM_def (And.intro @tYesM_def (And.intro @iSeq_def (And.intro @iRng_def (And.intro @iEnm_def (And.intro @iRvs_def (And.intro @eLm_def (And.intro @eLc_def (And.intro @Res.bind_ok (And.intro @Res.bind_exc (And.intro @Res.bind_bad (And.intro @Res.then_ok (And.intro @Res.then_exc (And.intro @SR.bind_nx (And.intro @SR.bind_rt (And.intro @SR.bind_bk (And.intro @SR.bind_ct (And.intro @SR.bind_xc (And.intro @Res.sr_ok (And.intro @Res.nx_ok (And.intro @Bool.false_eq_true (And.intro @Bool.true_eq_false (And.intro @Bool.not_true (And.intro @Bool.not_false (And.intro @ls_g0 (And.intro @ls_gs (And.intro @ls_s0 (And.intro @ls_ss (And.intro @int2'_ok (And.intro @addP_int (And.intro @absP_int (And.intro @intP_int (And.intro @intP_bl (And.intro @one_eq (And.intro @two_eq (And.intro @lenP_tup (And.intro @lenP_lst (And.intro @lenP_scr (And.intro @tupleP_tup (And.intro @tupleP_lst (And.intro @tupleP_scr (And.intro @mkL_t (And.intro @mkL_f (And.intro @srcSeq_tup (And.intro @srcSeq_lst (And.intro @srcSeq_scr (And.intro @eqP_int (And.intro @eqP_bl (And.intro @eqP_str (And.intro @neP_int (And.intro @neP_bl (And.intro @neP_str (And.intro @negP_int (And.intro @maxP_two (And.intro @minP_two (@decide_eq_true_eq))))))))))))))))))))))))))))))))))))))))))))))))))))))))))))))))))))))))))))))))))))))))))))))))))) := And.intro @sCons_def (And.intro @sSet_def (And.intro @sIf_def (And.intro @sNil_def (And.intro @sDrop_def (And.intro @sRet_def (And.intro @sRetN_def (And.intro @sBrk_def (And.intro @sCnt_def (And.intro @sAsg_def (And.intro @sAug_def (And.intro @sRaise_def (And.intro @sFor_def (And.intro @gSlot_def (And.intro @gSubM_def (And.intro @gTupM_tup (And.intro @gCons'_cons (And.intro @gNil'_nil (And.intro @eVar_def (And.intro @eC_def (And.intro @eBin_def (And.intro @eUn_def (And.intro @aNil_def (And.intro @aCons_def (And.intro @eCall_def (And.intro @eAndM_def (And.intro @eOrM_def (And.intro @eNotM_def (And.intro @eIfM_def (And.intro @eChain_def (And.intro @eTup_def (And.intro @eLst_def (And.intro @eFrz_def (And.intro @eGc_def (And.intro @eFz_def (And.intro @eSl_def (And.intro @oNone_def (And.intro @oSome_def (And.intro @asB_bl (And.intro @asI_int (And.intro @tVal_def (And.intro @tAndM_def (And.intro @tOrM_def (And.intro @tNotM_def (And.intro @tYesM_def (And.intro @iSeq_def (And.intro @iRng_def (And.intro @iEnm_def (And.intro @iRvs_def (And.intro @eLm_def (And.intro @eLc_def (And.intro @Res.bind_ok (And.intro @Res.bind_exc (And.intro @Res.bind_bad (And.intro @Res.then_ok (And.intro @Res.then_exc (And.intro @SR.bind_nx (And.intro @SR.bind_rt (And.intro @SR.bind_bk (And.intro @SR.bind_ct (And.intro @SR.bind_xc (And.intro @Res.sr_ok (And.intro @Res.nx_ok (And.intro @Bool.false_eq_true (And.intro @Bool.true_eq_false (And.intro @Bool.not_true (And.intro @Bool.not_false (And.intro @ls_g0 (And.intro @ls_gs (And.intro @ls_s0 (And.intro @ls_ss (And.intro @int2'_ok (And.intro @addP_int (And.intro @absP_int (And.intro @intP_int (And.intro @intP_bl (And.intro @one_eq (And.intro @two_eq (And.intro @lenP_tup (And.intro @lenP_lst (And.intro @lenP_scr (And.intro @tupleP_tup (And.intro @tupleP_lst (And.intro @tupleP_scr (And.intro @mkL_t (And.intro @mkL_f (And.intro @srcSeq_tup (And.intro @srcSeq_lst (And.intro @srcSeq_scr (And.intro @eqP_int (And.intro @eqP_bl (And.intro @eqP_str (And.intro @neP_int (And.intro @neP_bl (And.intro @neP_str (And.intro @negP_int (And.intro @maxP_two (And.intro @minP_two (@decide_eq_true_eq))))))))))))))))))))))))))))))))))))))))))))))))))))))))))))))))))))))))))))))))))))))))))))))))))
end Pm
namespace PySem.W
open PySem PySem.Spec PySem.Calls PyProof.Rows
section
variable {prog : Program} {w : World} {A : Around} {E : Value → Shared → Prop} {s : Shared} {K : Frag} {x D : Addr} {ox od : Obj}
/-- e.__class__, e an exception that has its dict -/
theorem pm_classD {Q : Option Value → Shared → Prop} (C : L2.ExcC K D) (KI : K.In s.heap) (J : InstAt s.heap x ox D (some od)) (hQ : Q (some (.ref D)) { s with toks := s.toks + 1 }) : wpAny (model prog w) A (getAttr? (.ref x) "__class__") Q E s := by
  have hfd : findObj K D (some od) "__class__" = some (.bind (.builtin "getset_descriptor.__get__") (.builtin "object.__class__")) := findObj_data (by obtain ⟨cd, hcd, _⟩ := any_some C.hd; rw [hcd]; rfl) C.ha C.hn C.ht
  obtain ⟨h0, gg, dd, tt, oo⟩ := s
  have M0 := J.type (M := model prog w)
  have M1 := looks_findIn (M := model prog w) KI C.hg
  have M2 := looks_findIn (M := model prog w) KI C.hk
  have M3 := looks_find (M := model prog w) KI J hfd
  have isE : Looks (model prog w) h0 (isInstance (.ref x) (.type "BaseException")) true := M0.andThen (looks_subIn KI C.hs)
  have q0 : (false && onTheHeap (Value.builtin "BaseException.__getattribute__")) = false := (rfl)
  have q1 : (onTheHeap (Value.ref D) && Value.builtin "BaseException.__getattribute__" == Value.builtin "object.__getattribute__") = false := by
    rw [show (Value.builtin "BaseException.__getattribute__" == Value.builtin "object.__getattribute__") = false by decide +kernel]; rfl
  unfold getAttr? getAttrBy? getAttrBy
  refine wpAny_bind (wpAny_mkText (wpAny_bind (wpAny_attempt (wpAny_holding (wpAny_bind (M0.at (wpAny_bind (M1.at ?_))))))))
  show wpAny _ _ (if (onTheHeap (Value.ref D) && Value.builtin "BaseException.__getattribute__" == Value.builtin "object.__getattribute__") = true then _ else _) _ _ (_ : Shared)
  rw [q1, if_neg Bool.false_ne_true]; unfold getAttrByItsOwn hookBefore
  refine wpAny_bind ?_
  rw [if_pos (show onTheHeap (Value.ref D) = true from (rfl))]
  refine M2.at (wpAny_bind (wpAny_attempt (wpAny_holding ?_)))
  unfold callGetattribute
  rw [q0, if_neg Bool.false_ne_true]; unfold boundAndCalled
  rw [PySem.F.excAttr_ValueError.ga.bind (.ref x)]; refine wpAny_bind (wpAny_pure ?_)
  show wpAny _ _ (call (.builtin "BaseException.__getattribute__") [.ref x, .str "__class__" tt]) _ _ (_ : Shared)
  refine wpAny_call (codeAny_call_builtin (PySem.F.excAttr_ValueError.ga.plain) PySem.F.entry_bexc_ga ?_)
  refine @check_slot (model prog w) _ _ ⟨h0, gg, dd, tt + 1, oo⟩ "BaseException.__getattribute__" "BaseException" "__getattribute__" (.ref x) [.str "__class__" tt] [] _ (by decide +kernel) (by decide +kernel) isE (PySem.F.args_bexc_ga (.ref x) (.str "__class__" tt)) ?_
  unfold Builtin.«object.__getattribute__»
  refine wpAny_bind (wpAny_of_eq (a := ((Value.ref x : Value), [Value.str "__class__" tt])) (by first | rfl | (simp only [slotArgs]; rfl)) ?_)
  refine wpAny_bind (wpAny_pure (wpAny_bind (M0.at (wpAny_bind (M3.at ?_)))))
  show wpAny _ _ (holding [Value.builtin "object.__class__"] (call (.builtin "getset_descriptor.__get__") [.builtin "object.__class__", .ref x, .ref D]) >>= ret) _ _ (_ : Shared)
  refine wpAny_bind (wpAny_holding (wpAny_call (class_get (s := ⟨h0, gg, dd, tt + 1, oo⟩) (ox := ox) (od := some od) KI J C.hm (wpAny_pure ?_))))
  show wpAny _ _ (handedOut (.ref D)) _ _ (_ : Shared)
  rw [handedOut_of (v := .ref D) rfl]
  first
    | exact (wpAny_pure (wpAny_pure hQ))
    | exact (wpAny_pure hQ)
    | exact (wpAny_pure (wpAny_bind (wpAny_pure (wpAny_pure hQ))))
theorem pm_kitD (C : L2.ExcC K D) : KitX K (.ref x) (.ref D) (fun h => InstAt h x ox D (some od)) where
  ty := fun _ _ _ J => J.type
  it := fun _ _ KI _ => by
    obtain ⟨cd1, hc1, _⟩ := any_some C.hd
    unfold clsIn at hc1
    split at hc1
    · rename_i c1 d1 cdd sl1 hlk
      intro A1 Q1 E1 s1 k1 q1
      unfold isType loadHead; exact wpAny_bind (wpAny_loadPart (k1 _ _ (KI _ _ hlk)) (wpAny_pure q1))
    · cases hc1
  ne := (handS_kitx_exc (x := x) (ox := ox) C.hg C.hk C.hs C.hd C.ha C.hn C.ht C.hm).ne
  ca := fun KI J k => pm_classD C KI J k
end
end PySem.W
namespace Pm
open PySem PySem.Spec L2 PyProof.Rows

/-! ### values without the exception of a suite -/
mutual
def cleanV : PV → Prop
  | .tup xs => cleanVs xs
  | .lst xs => cleanVs xs
  | .scr xs => cleanVs xs
  | .ins _ fs => cleanF fs
  | .exn => False
  | _ => True
def cleanVs : List PV → Prop
  | [] => True
  | x :: xs => cleanV x ∧ cleanVs xs
def cleanF : List (Str × PV) → Prop
  | [] => True
  | (_, x) :: xs => cleanV x ∧ cleanF xs
end
def cleanO : PO → Prop
  | .lst xs => cleanVs xs
  | .dic _ kvs => ∀ p ∈ kvs, cleanV p.2
  | .ins _ fs => cleanF fs
  | .dead => True
def cleanH (h : VH) : Prop := ∀ o ∈ h, cleanO o
def cleanL (σ : LS) : Prop := ∀ v, some v ∈ σ → cleanV v
@[simp] theorem cleanV_non : cleanV .non := by simp [cleanV]
@[simp] theorem cleanV_bl (b : Bool) : cleanV (.bl b) := by simp [cleanV]
@[simp] theorem cleanV_int (i : Int) : cleanV (.int i) := by simp [cleanV]
@[simp] theorem cleanV_str (i : Str) : cleanV (.str i) := by simp [cleanV]
@[simp] theorem cleanV_ty (i : String) : cleanV (.ty i) := by simp [cleanV]
@[simp] theorem cleanV_cls (i : Nat) : cleanV (.cls i) := by simp [cleanV]
@[simp] theorem cleanV_tup (xs : List PV) : cleanV (.tup xs) ↔ cleanVs xs := by simp [cleanV]
@[simp] theorem cleanV_lst (xs : List PV) : cleanV (.lst xs) ↔ cleanVs xs := by simp [cleanV]
@[simp] theorem cleanV_scr (xs : List PV) : cleanV (.scr xs) ↔ cleanVs xs := by simp [cleanV]
@[simp] theorem cleanV_ins (C : Nat) (fs : List (Str × PV)) : cleanV (.ins C fs) ↔ cleanF fs := by simp [cleanV]
@[simp] theorem cleanV_ref (i : Nat) : cleanV (.ref i) := by simp [cleanV]
@[simp] theorem cleanVs_nil : cleanVs [] := by simp [cleanVs]
@[simp] theorem cleanVs_cons (x : PV) (xs : List PV) : cleanVs (x :: xs) ↔ cleanV x ∧ cleanVs xs := by simp [cleanVs]
@[simp] theorem cleanF_nil : cleanF [] := by simp [cleanF]
@[simp] theorem cleanF_cons (p : Str × PV) (xs : List (Str × PV)) : cleanF (p :: xs) ↔ cleanV p.2 ∧ cleanF xs := by cases p; simp [cleanF]
theorem cleanVs_iff : ∀ {xs : List PV}, cleanVs xs ↔ ∀ x ∈ xs, cleanV x
  | [] => by simp
  | x :: xs => by simp [cleanVs_iff (xs := xs)]
theorem cleanVs_map {α : Type} {f : α → PV} {xs : List α} (h : ∀ x ∈ xs, cleanV (f x)) : cleanVs (xs.map f) := by
  rw [cleanVs_iff]; intro y hy
  obtain ⟨x, hx, rfl⟩ := List.mem_map.mp hy
  exact h x hx
@[simp] theorem cleanVs_ints (xs : List Int) : cleanVs (xs.map PV.int) := cleanVs_map fun _ _ => cleanV_int _
@[simp] theorem cleanVs_bls (xs : List Bool) : cleanVs (xs.map PV.bl) := cleanVs_map fun _ _ => cleanV_bl _
@[simp] theorem cleanVs_strs (xs : List Str) : cleanVs (xs.map PV.str) := cleanVs_map fun _ _ => cleanV_str _
@[simp] theorem cleanVs_append (xs ys : List PV) : cleanVs (xs ++ ys) ↔ cleanVs xs ∧ cleanVs ys := by
  simp only [cleanVs_iff, List.mem_append]
  exact ⟨fun h => ⟨fun x hx => h x (.inl hx), fun x hx => h x (.inr hx)⟩, fun h x hx => hx.elim (h.1 x) (h.2 x)⟩
section
variable {F : PySem.W.Frag} {cl : Nat → Addr} {ex ex' : Option (Addr × Addr × PX)} {g : Gh} {n : Nat}
mutual
theorem clean_of_rep : ∀ {x : PV} {u : V}, Rep ⟨F, ⟨cl, none⟩⟩ g n x u → cleanV x
  | .non, _, _ => cleanV_non
  | .bl _, _, _ => cleanV_bl _
  | .int _, _, _ => cleanV_int _
  | .str _, _, _ => cleanV_str _
  | .ty _, _, _ => cleanV_ty _
  | .cls _, _, _ => cleanV_cls _
  | .ref _, _, _ => cleanV_ref _
  | .exn, _, h => by
    simp only [Rep] at h
    obtain ⟨a, dd, e, z, _⟩ := h
    cases z
  | .tup xs, _, h => by
    simp only [Rep] at h
    obtain ⟨a, us, e, s, r⟩ := h
    simpa only [cleanV] using cleans_of_rep r
  | .lst xs, _, h => by
    simp only [Rep] at h
    obtain ⟨a, us, e, s, r⟩ := h
    simpa only [cleanV] using cleans_of_rep r
  | .scr xs, _, h => by
    simp only [Rep] at h
    obtain ⟨a, us, e, s, r⟩ := h
    simpa only [cleanV] using cleans_of_rep r
  | .ins C fs, _, h => by
    simp only [Rep] at h
    obtain ⟨a, dx, gs, e, s, r⟩ := h
    simpa only [cleanV] using cleanF_of_rep r
theorem cleans_of_rep : ∀ {xs : List PV} {us : List V}, Reps ⟨F, ⟨cl, none⟩⟩ g n xs us → cleanVs xs
  | [], _, _ => by simp only [cleanVs]
  | x :: xs, _, h => by
    simp only [Reps] at h
    obtain ⟨u, r, e, a, b⟩ := h
    simp only [cleanVs]
    exact ⟨clean_of_rep a, cleans_of_rep b⟩
theorem cleanF_of_rep : ∀ {fs : List (Str × PV)} {us : List (Str × V)}, RepF ⟨F, ⟨cl, none⟩⟩ g n fs us → cleanF fs
  | [], _, _ => by simp only [cleanF]
  | (f, x) :: xs, _, h => by
    simp only [RepF] at h
    obtain ⟨u, r, e, a, b⟩ := h
    simp only [cleanF]
    exact ⟨clean_of_rep a, cleanF_of_rep b⟩
end
mutual
theorem rep_sw : ∀ {x : PV} {u : V}, Rep ⟨F, ⟨cl, ex⟩⟩ g n x u → cleanV x → Rep ⟨F, ⟨cl, ex'⟩⟩ g n x u
  | .non, _, h, _ => by simpa only [Rep] using h
  | .bl _, _, h, _ => by simpa only [Rep] using h
  | .int _, _, h, _ => by simpa only [Rep] using h
  | .str _, _, h, _ => by simpa only [Rep] using h
  | .ty _, _, h, _ => by simpa only [Rep] using h
  | .cls _, _, h, _ => by simpa only [Rep] using h
  | .ref _, _, h, _ => by simpa only [Rep] using h
  | .exn, _, _, q => by simp only [cleanV] at q
  | .tup xs, _, h, q => by
    simp only [Rep] at h ⊢
    simp only [cleanV] at q
    obtain ⟨a, us, e, s, r⟩ := h
    exact ⟨a, us, e, s, reps_sw r q⟩
  | .lst xs, _, h, q => by
    simp only [Rep] at h ⊢
    simp only [cleanV] at q
    obtain ⟨a, us, e, s, r⟩ := h
    exact ⟨a, us, e, s, reps_sw r q⟩
  | .scr xs, _, h, q => by
    simp only [Rep] at h ⊢
    simp only [cleanV] at q
    obtain ⟨a, us, e, s, r⟩ := h
    exact ⟨a, us, e, s, reps_sw r q⟩
  | .ins C fs, _, h, q => by
    simp only [Rep] at h ⊢
    simp only [cleanV] at q
    obtain ⟨a, dx, gs, e, s, r⟩ := h
    exact ⟨a, dx, gs, e, s, repF_sw r q⟩
theorem reps_sw : ∀ {xs : List PV} {us : List V}, Reps ⟨F, ⟨cl, ex⟩⟩ g n xs us → cleanVs xs → Reps ⟨F, ⟨cl, ex'⟩⟩ g n xs us
  | [], _, h, _ => by simpa only [Reps] using h
  | x :: xs, _, h, q => by
    simp only [Reps] at h ⊢
    simp only [cleanVs] at q
    obtain ⟨u, r, e, a, b⟩ := h
    exact ⟨u, r, e, rep_sw a q.1, reps_sw b q.2⟩
theorem repF_sw : ∀ {fs : List (Str × PV)} {us : List (Str × V)}, RepF ⟨F, ⟨cl, ex⟩⟩ g n fs us → cleanF fs → RepF ⟨F, ⟨cl, ex'⟩⟩ g n fs us
  | [], _, h, _ => by simpa only [RepF] using h
  | (f, x) :: xs, _, h, q => by
    simp only [RepF] at h ⊢
    simp only [cleanF] at q
    obtain ⟨u, r, e, a, b⟩ := h
    exact ⟨u, r, e, rep_sw a q.1, repF_sw b q.2⟩
end
theorem repD_sw {κ : Type} {key : PV → Option κ} : ∀ {kvs : List (PV × PV)} {us : List (κ × V)}, RepD ⟨F, ⟨cl, ex⟩⟩ g n key kvs us → (∀ p ∈ kvs, cleanV p.2) → RepD ⟨F, ⟨cl, ex'⟩⟩ g n key kvs us
  | [], _, h, _ => by simpa only [RepD] using h
  | (k, x) :: xs, _, h, q => by
    simp only [RepD] at h ⊢
    obtain ⟨k', u, r, e, ek, a, b⟩ := h
    exact ⟨k', u, r, e, ek, rep_sw a (q _ List.mem_cons_self), repD_sw b fun p hp => q p (List.mem_cons_of_mem _ hp)⟩
theorem cleanD_of_rep {κ : Type} {key : PV → Option κ} : ∀ {kvs : List (PV × PV)} {us : List (κ × V)}, RepD ⟨F, ⟨cl, none⟩⟩ g n key kvs us → ∀ p ∈ kvs, cleanV p.2
  | [], _, _, p, hp => by cases hp
  | (k, x) :: xs, _, h, p, hp => by
    simp only [RepD] at h
    obtain ⟨k', u, r, e, ek, a, b⟩ := h
    rcases List.mem_cons.mp hp with rfl | hp
    · exact clean_of_rep a
    · exact cleanD_of_rep b p hp
theorem repO_sw {o : PO} {u : HO} (h : RepO ⟨F, ⟨cl, ex⟩⟩ g n o u) (q : cleanO o) : RepO ⟨F, ⟨cl, ex'⟩⟩ g n o u := by
  cases o with
  | lst xs => obtain ⟨us, e, r⟩ := h; exact ⟨us, e, reps_sw r q⟩
  | dic t kvs =>
    cases t with
    | false => obtain ⟨us, e, r⟩ := h; exact ⟨us, e, repD_sw r q⟩
    | true => obtain ⟨us, e, r⟩ := h; exact ⟨us, e, repD_sw r q⟩
  | ins C fs => obtain ⟨dx, gs, e, r⟩ := h; exact ⟨dx, gs, e, repF_sw r q⟩
  | dead => trivial
theorem cleanO_of_rep {o : PO} {u : HO} (h : RepO ⟨F, ⟨cl, none⟩⟩ g n o u) : cleanO o := by
  cases o with
  | lst xs => obtain ⟨us, e, r⟩ := h; exact cleans_of_rep r
  | dic t kvs =>
    cases t with
    | false => obtain ⟨us, e, r⟩ := h; exact cleanD_of_rep r
    | true => obtain ⟨us, e, r⟩ := h; exact cleanD_of_rep r
  | ins C fs => obtain ⟨dx, gs, e, r⟩ := h; exact cleanF_of_rep r
  | dead => trivial
variable {h : VH} {H : Hp} {σ : LS} {τ : L2.St}
theorem RelH.enter {a dd : Addr} {e : PX} {gs : List (Str × V)} (r : RelH ⟨F, ⟨cl, none⟩⟩ g h H) (hd : g.Hf dd = some (.xd gs)) (rf : RepF ⟨F, ⟨cl, none⟩⟩ g h.length e.fs gs) : RelH ⟨F, ⟨cl, some (a, dd, e)⟩⟩ g h H := by
  refine ⟨r.same, fun i o z d => ?_, r.sep, r.inj, r.fr, fun a2 d2 e2 z => ?_⟩
  · obtain ⟨u, hu, ru⟩ := r.cell i o z d
    exact ⟨u, hu, repO_sw ru (cleanO_of_rep ru)⟩
  · cases z
    exact ⟨gs, hd, repF_sw rf (cleanF_of_rep rf)⟩
theorem RelH.leave (r : RelH ⟨F, ⟨cl, ex⟩⟩ g h H) (q : cleanH h) : RelH ⟨F, ⟨cl, none⟩⟩ g h H := by
  refine ⟨r.same, fun i o z d => ?_, r.sep, r.inj, r.fr, fun a2 d2 e2 z => by cases z⟩
  obtain ⟨u, hu, ru⟩ := r.cell i o z d
  exact ⟨u, hu, repO_sw ru (q o (List.mem_of_getElem? z))⟩
theorem RelS.enter (r : RelS ⟨F, ⟨cl, none⟩⟩ g n σ τ) : RelS ⟨F, ⟨cl, ex⟩⟩ g n σ τ := ⟨r.len, fun i v z => let ⟨u, e, ru⟩ := r.get i v z; ⟨u, e, rep_sw ru (clean_of_rep ru)⟩⟩
theorem RelS.leave (r : RelS ⟨F, ⟨cl, ex⟩⟩ g n σ τ) (q : cleanL σ) : RelS ⟨F, ⟨cl, none⟩⟩ g n σ τ := ⟨r.len, fun i v z => let ⟨u, e, ru⟩ := r.get i v z; ⟨u, e, rep_sw ru (q v (List.mem_of_getElem? z))⟩⟩
end

/-! ### try -/
def undo {α : Type} (o : Option Nat) (σ : List (Option α)) : List (Option α) := match o with
  | some i => σ.set i none
  | none => σ
@[simp] theorem undo_some {α : Type} (i : Nat) (σ : List (Option α)) : undo (some i) σ = σ.set i none := rfl
@[simp] theorem undo_none {α : Type} (σ : List (Option α)) : undo none σ = σ := rfl
def seti (o : Option Nat) (σ : LS) : LS := match o with
  | some i => σ.set i (some .exn)
  | none => σ
@[simp] theorem seti_some (i : Nat) (σ : LS) : seti (some i) σ = σ.set i (some .exn) := rfl
@[simp] theorem seti_none (σ : LS) : seti none σ = σ := rfl
open Classical in
noncomputable def unb (i : Option Nat) : SR → SR
  | .nx σ h => if cleanL (undo i σ) ∧ cleanH h then .nx (undo i σ) h else .bad
  | .bk σ h => if cleanL (undo i σ) ∧ cleanH h then .bk (undo i σ) h else .bad
  | .ct σ h => if cleanL (undo i σ) ∧ cleanH h then .ct (undo i σ) h else .bad
  | .rt v h => if cleanV v ∧ cleanH h then .rt v h else .bad
  | .xc _ _ _ => .bad
  | .bad => .bad
theorem unb_rt {i : Option Nat} {v : PV} {h : VH} (a : cleanV v) (b : cleanH h) : unb i (.rt v h) = .rt v h := if_pos ⟨a, b⟩
theorem unb_nx {i : Nat} {σ : LS} {h : VH} (a : cleanL (σ.set i none)) (b : cleanH h) : unb (some i) (.nx σ h) = .nx (σ.set i none) h := if_pos ⟨a, b⟩
theorem unb_nx0 {σ : LS} {h : VH} (a : cleanL σ) (b : cleanH h) : unb none (.nx σ h) = .nx σ h := if_pos ⟨a, b⟩
/-- body; an exception of the classes sub goes to the suite -/
noncomputable def sTry (sub : Nat → Option Bool) (i : Option Nat) (mb : SM) (ms : PX → SM) : SM := fun σ h => match mb σ h with
  | .xc e σ' h' => match sub e.C with
    | some true => unb i (ms e (seti i σ') h')
    | some false => .xc e σ' h'
    | none => .bad
  | r => r
theorem sTry_def (sub : Nat → Option Bool) (i : Option Nat) (mb : SM) (ms : PX → SM) (σ : LS) (h : VH) : sTry sub i mb ms σ h = (match mb σ h with
  | .xc e σ' h' => match sub e.C with
    | some true => unb i (ms e (seti i σ') h')
    | some false => .xc e σ' h'
    | none => .bad
  | r => r) := (rfl)
theorem sTry_nx {sub : Nat → Option Bool} {i : Option Nat} {mb : SM} {ms : PX → SM} {σ σ' : LS} {h h' : VH} (e : mb σ h = .nx σ' h') : sTry sub i mb ms σ h = .nx σ' h' := by rw [sTry_def, e]
theorem sTry_rt {sub : Nat → Option Bool} {i : Option Nat} {mb : SM} {ms : PX → SM} {σ : LS} {h h' : VH} {v : PV} (e : mb σ h = .rt v h') : sTry sub i mb ms σ h = .rt v h' := by rw [sTry_def, e]
theorem sTry_xc {sub : Nat → Option Bool} {i : Option Nat} {mb : SM} {ms : PX → SM} {σ σ' : LS} {h h' : VH} {x : PX} (e : mb σ h = .xc x σ' h') (b : sub x.C = some true) : sTry sub i mb ms σ h = unb i (ms x (seti i σ') h') := by rw [sTry_def, e]; simp only [b]
/-- a statement's model as a reading -/
def tsOf (K : Kc) (W : WX) (m : SM) : TS := fun D τ H => ∃ g σ h, RelS K g h.length σ τ ∧ RelH K g h H ∧ PostS K g h.length D W (m σ h)
theorem SS.pss {c : Ck} {X : Cx} {W : WX} {s : List Stmt} {m : SM} (h : SS c X W s m) : PSs X s (tsOf (kx c X) W m) := by
  obtain ⟨t, p, q⟩ := h
  exact ⟨fun pins s τ H D I ⟨g, σ, h, rs, rh, z⟩ => p.run pins s τ H D I (q g σ h τ H D rs rh z)⟩
def Ck.exc (c : Ck) (a dd : Addr) (e : PX) : Ck := ⟨c.cls, some (a, dd, e)⟩
section
variable {c : Ck} {X : Cx} {x n : Str} {cv : Value} {i : Nat} {body suite : List Stmt} {b₀ : Stmt} {np pos pos' : Pos} {mb : SM} {ms : PX → SM} {Wout : WX} {sub : Nat → Option Bool}
/-- the suite's reading -/
def tsSu (X : Cx) (c : Ck) (ms : PX → SM) (a : Addr) (cls : Value) (d : Option Addr) : TS := fun D τ H => ∃ e dd, cls = .ref (c e.C) ∧ d = some dd ∧ tsOf (kx (c.exc a dd e) X) W0 (ms e) D τ H
theorem su_pss (hsu : ∀ (a dd : Addr) (e : PX) (oe : Obj) (pn : List (Addr × Obj)), Zc (.ref (c e.C)) (some dd) oe → (∃ vs, oe.data = .fields vs) → SS (c.exc a dd e) (X.suite a ((a, oe) :: pn)) W0 (b₀ :: suite) (ms e))
    (a : Addr) (oe : Obj) (cls : Value) (d : Option Addr) (pn : List (Addr × Obj)) (hz : Zc cls d oe) (hf : ∃ vs, oe.data = .fields vs) : PSs (X.suite a ((a, oe) :: pn)) (b₀ :: suite) (tsSu X c ms a cls d) := by
  refine ⟨fun pins s τ H D I ⟨e, dd, e1, e2, q⟩ => ?_⟩
  subst e1 e2
  exact (hsu a dd e oe pn hz hf).pss.run pins s τ H D I q
open Classical in
theorem unb_post {F : PySem.W.Frag} {cl : Nat → Addr} {ex : Option (Addr × Addr × PX)} {g : Gh} {n : Nat} {D : Ends} {W : WX} {o : Option Nat} {r : SR} (q : PostS ⟨F, ⟨cl, none⟩⟩ g n D W (unb o r)) :
    PostS ⟨F, ⟨cl, ex⟩⟩ g n { nx := fun σ' H' => D.nx (undo o σ') H', rt := D.rt, bk := fun σ' H' => D.bk (undo o σ') H', ct := fun σ' H' => D.ct (undo o σ') H' } W0 r := by
  cases r with
  | nx σ h =>
    have q : PostS ⟨F, ⟨cl, none⟩⟩ g n D W (if cleanL (undo o σ) ∧ cleanH h then .nx (undo o σ) h else .bad) := q
    by_cases z : cleanL (undo o σ) ∧ cleanH h
    · rw [if_pos z] at q
      intro g' τ H l hn rh rs
      cases o with
      | none => exact q g' τ H l hn (rh.leave z.2) (rs.leave z.1)
      | some i => exact q g' _ H l hn (rh.leave z.2) ((rs.forget i).leave z.1)
    · rw [if_neg z] at q
      exact q.elim
  | bk σ h =>
    have q : PostS ⟨F, ⟨cl, none⟩⟩ g n D W (if cleanL (undo o σ) ∧ cleanH h then .bk (undo o σ) h else .bad) := q
    by_cases z : cleanL (undo o σ) ∧ cleanH h
    · rw [if_pos z] at q
      intro g' τ H l hn rh rs
      cases o with
      | none => exact q g' τ H l hn (rh.leave z.2) (rs.leave z.1)
      | some i => exact q g' _ H l hn (rh.leave z.2) ((rs.forget i).leave z.1)
    · rw [if_neg z] at q
      exact q.elim
  | ct σ h =>
    have q : PostS ⟨F, ⟨cl, none⟩⟩ g n D W (if cleanL (undo o σ) ∧ cleanH h then .ct (undo o σ) h else .bad) := q
    by_cases z : cleanL (undo o σ) ∧ cleanH h
    · rw [if_pos z] at q
      intro g' τ H l hn rh rs
      cases o with
      | none => exact q g' τ H l hn (rh.leave z.2) (rs.leave z.1)
      | some i => exact q g' _ H l hn (rh.leave z.2) ((rs.forget i).leave z.1)
    · rw [if_neg z] at q
      exact q.elim
  | rt v h =>
    have q : PostS ⟨F, ⟨cl, none⟩⟩ g n D W (if cleanV v ∧ cleanH h then .rt v h else .bad) := q
    by_cases z : cleanV v ∧ cleanH h
    · rw [if_pos z] at q
      intro g' u H l hn rh rv
      exact q g' u H l hn (rh.leave z.2) (rep_sw rv z.1)
    · rw [if_neg z] at q
      exact q.elim
  | xc e σ h => exact q.elim
  | bad => exact q.elim
theorem S1.tryAs (hx0 : c.ex = none) (hs : X.stack = X.env :: X.outer) (hf : X.env.frame = some X.env.locals) (hN : X.N.Nodup) (hi : X.N[i]? = some n) (hln : X.env.kindOf n = some .local) (hc : Names X x cv) (tk : Takes X Wout)
    (hsub : ∀ C b, sub C = some b → PySem.W.exmOne X.K (.ref (c C)) cv = some b)
    (hb : ∀ (W : WX) (pn : List (Addr × Obj)) (xe : Value → Shared → Prop), Takes (X.tr pn xe) W → PassesOwn (model X.prog X.w) X.A X.env xe → SS c (X.tr pn xe) W body mb)
    (hsu : ∀ (a dd : Addr) (e : PX) (oe : Obj) (pn : List (Addr × Obj)), Zc (.ref (c e.C)) (some dd) oe → (∃ vs, oe.data = .fields vs) → SS (c.exc a dd e) (X.suite a ((a, oe) :: pn)) W0 (b₀ :: suite) (ms e)) :
    S1 c X Wout (.Try body [.ExceptHandler (some (.Name x np)) (some n) (b₀ :: suite) pos'] [] [] pos) (sTry sub (some i) mb ms) := by
  refine ⟨_, ps_try_as (tb := fun W => tsOf (kx c X) W mb) (ts := tsSu X c ms) hs hf hN hi hln hc tk (fun W pn xe t p => (hb W pn xe t p).pss) (su_pss hsu), fun g σ h τ H D rs rh q => ⟨g, σ, h, rs, rh, ?_⟩⟩
  obtain ⟨cl, ex⟩ := c
  dsimp only at hx0
  subst hx0
  rw [sTry_def] at q
  generalize mb σ h = r at q ⊢
  cases r with
  | nx σ' h' => exact q
  | bk σ' h' => exact q
  | ct σ' h' => exact q
  | rt v h' => exact q
  | bad => exact q
  | xc e σ' h' =>
    dsimp only at q
    intro g' cls d τ' H' l hn rh' rs' rx
    obtain ⟨rfl, dd, gs, rfl, hd, rf⟩ := rx
    split at q
    · rename_i hb'
      refine ⟨true, hsub _ _ hb', fun _ a na => ⟨e, dd, rfl, rfl, g', σ'.set i (some .exn), h', ?_, rh'.enter hd rf, unb_post (PostS.up q l hn)⟩, fun z => by cases z⟩
      exact (RelS.enter rs').set i (by simp only [Rep]; exact ⟨a, dd, e, rfl, rfl⟩)
    · rename_i hb'
      refine ⟨false, hsub _ _ hb', fun z => (by cases z), fun _ => ?_⟩
      exact q g' _ _ τ' H' l hn rh' rs' ⟨rfl, dd, gs, rfl, hd, rf⟩
    · exact q.elim
theorem S1.tryOnly (hx0 : c.ex = none) (hs : X.stack = X.env :: X.outer) (hf : X.env.frame = some X.env.locals) (hc : Names X x cv) (tk : Takes X Wout)
    (hsub : ∀ C b, sub C = some b → PySem.W.exmOne X.K (.ref (c C)) cv = some b)
    (hb : ∀ (W : WX) (pn : List (Addr × Obj)) (xe : Value → Shared → Prop), Takes (X.tr pn xe) W → PassesOwn (model X.prog X.w) X.A X.env xe → SS c (X.tr pn xe) W body mb)
    (hsu : ∀ (a dd : Addr) (e : PX) (oe : Obj) (pn : List (Addr × Obj)), Zc (.ref (c e.C)) (some dd) oe → (∃ vs, oe.data = .fields vs) → SS (c.exc a dd e) (X.suite a ((a, oe) :: pn)) W0 (b₀ :: suite) (ms e)) :
    S1 c X Wout (.Try body [.ExceptHandler (some (.Name x np)) none (b₀ :: suite) pos'] [] [] pos) (sTry sub none mb ms) := by
  refine ⟨_, ps_try_only (tb := fun W => tsOf (kx c X) W mb) (ts := tsSu X c ms) hs hf hc tk (fun W pn xe t p => (hb W pn xe t p).pss) (su_pss hsu), fun g σ h τ H D rs rh q => ⟨g, σ, h, rs, rh, ?_⟩⟩
  obtain ⟨cl, ex⟩ := c
  dsimp only at hx0
  subst hx0
  rw [sTry_def] at q
  generalize mb σ h = r at q ⊢
  cases r with
  | nx σ' h' => exact q
  | bk σ' h' => exact q
  | ct σ' h' => exact q
  | rt v h' => exact q
  | bad => exact q
  | xc e σ' h' =>
    dsimp only at q
    intro g' cls d τ' H' l hn rh' rs' rx
    obtain ⟨rfl, dd, gs, rfl, hd, rf⟩ := rx
    split at q
    · rename_i hb'
      exact ⟨true, hsub _ _ hb', fun _ a na => ⟨e, dd, rfl, rfl, g', σ', h', RelS.enter rs', rh'.enter hd rf, unb_post (o := none) (PostS.up q l hn)⟩, fun z => by cases z⟩
    · rename_i hb'
      refine ⟨false, hsub _ _ hb', fun z => (by cases z), fun _ => ?_⟩
      exact q g' _ _ τ' H' l hn rh' rs' ⟨rfl, dd, gs, rfl, hd, rf⟩
    · exact q.elim

/-! ### what a suite may ask of its exception -/
/-- e.f, for an exception of the classes cs -/
def eXf (cs : List Nat) (e : PX) (i : Nat) (f : Str) : EM := fun σ h => match σ[i]?, e.fs.lookup f, cs.contains e.C with
  | some (some .exn), some v, true => .ok v h
  | _, _, _ => .bad
theorem eXf_def (cs : List Nat) (e : PX) (i : Nat) (f : Str) (σ : LS) (h : VH) : eXf cs e i f σ h = (match σ[i]?, e.fs.lookup f, cs.contains e.C with
  | some (some .exn), some v, true => .ok v h
  | _, _, _ => .bad) := (rfl)
variable {W : WX} {a dd : Addr} {e : PX} {oe : Obj} {pn : List (Addr × Obj)} {f : Str} {p apos : Pos}
theorem SE.xf (i : Nat) {cs : List Nat} (T : ∀ n ∈ cs, XfC X.K (c n) ∧ PySem.W.findIn X.K (.ref (c n)) f = some none) (hz : Zc (.ref (c e.C)) (some dd) oe) (hfd : ∃ vs, oe.data = .fields vs)
    (hN : X.N[i]? = some x := by rfl) (hv : Vis X.env.scope x := by first | exact Or.inl rfl | exact Or.inr (Or.inl rfl) | exact Or.inr (Or.inr rfl)) (hdb : (x == ("__debug__" : Str)) = false := by decide) (hcd : (x == ("__classdict__" : Str)) = false := by decide)
    (hb : attributeBase (.Name x p) f X.env (eval (.Name x p) X.env) = eval (.Name x p) X.env := by rfl) : SE (c.exc a dd e) (X.suite a ((a, oe) :: pn)) W (.Attribute (.Name x p) f pos) (eXf cs e i f) := by
  by_cases hl : e.C ∈ cs
  · obtain ⟨t1, t2⟩ := T _ hl
    refine ⟨_, pe_xf (X := X) t1 t2 hz hfd (pe_var (X := X.suite a ((a, oe) :: pn)) (i := i) hN hv hdb hcd) hb, fun g σ h τ H Q rs rh q => ?_⟩
    rw [eXf_def] at q
    split at q
    · rename_i v e1 e2 _
      obtain ⟨u, e3, r⟩ := rs.get i .exn e1
      simp only [Rep] at r
      obtain ⟨a', d', e', z, rfl⟩ := r
      cases z
      obtain ⟨gs, hgs, rf⟩ := rh.ex a dd e rfl
      obtain ⟨w, hw, rw'⟩ := (RepF.lookup (f := f) rf).1 v e2
      exact ⟨_, e3, rfl, rfl, dd, gs, w, rfl, rh.same _ _ hgs, hw, const_run rh rw' q⟩
    · exact q.elim
  · -- never read
    refine ⟨fun _ _ _ => False, ⟨fun _ _ _ _ _ _ z => z.elim⟩, fun g σ h τ H Q rs rh q => ?_⟩
    rw [eXf_def] at q
    split at q
    · rename_i z
      exact hl (List.contains_iff_mem.mp z)
    · exact q.elim
theorem ExcC.xf {K : PySem.W.Frag} {D : Addr} (C : ExcC K D) : XfC K D := ⟨C.hg, C.hk, C.hs, C.hd⟩
theorem ht_glob {X : Cx} {x : Str} {n : Nat} {pos : Pos} (hg : Gl X x) (hm : X.mg x = some (.ref (c n))) (hd : (x == ("__debug__" : Str)) = false := by decide) : ∃ v, PE X (.Name x pos) (tC v) ∧ ClsV v (tkV c (.cls n)) :=
  ⟨.ref (c n), pe_glob hg hm rfl hd, .own _⟩
theorem ht_bty {X : Cx} {x : Str} {T : String} {pos : Pos} (hg : Gl X x) (hm : X.mg x = none) (hv : bootBuiltins x = some (.type T)) (hn : x ≠ "__name__" := by decide) (hd : (x == ("__debug__" : Str)) = false := by decide) : ∃ v, PE X (.Name x pos) (tC v) ∧ ClsV v (tkV c (.ty T)) :=
  ⟨.ty T, pe_bltn hg hm hv (v := .ty T) rfl hn hd, .ty _⟩
/-- isinstance(e, T) -/
def rIsD (K : PySem.W.Frag) (D a dd : Addr) : List V → Hp → VK → Prop := fun xs H Q => ∃ (c : V) (cv : Value) (b : Bool) (gs : List (Str × V)), xs = [.ref a, c] ∧ ClsV c cv ∧ H dd = some (.xd gs) ∧ PySem.W.kitOne K (.ref D) cv = some b ∧ Q (.bl b) H
theorem call_isD {X : Cx} {a D dd : Addr} {oe : Obj} {pn : List (Addr × Obj)} (C : ExcC X.K D) (hz : Zc (.ref D) (some dd) oe) (hf : ∃ vs, oe.data = .fields vs) : CallR (X.suite a ((a, oe) :: pn)) (.builtin "isinstance") (rIsD X.K D a dd) := by
  intro pins s σ H xs us Q I r h
  obtain ⟨c, cv, b, gs, rfl, hcv, hd, e, q⟩ := h
  obtain ⟨u1, u2, rfl, rx, rt⟩ := vals2 r
  cases rx
  have ec := hcv.eq rt
  subst ec
  obtain ⟨hget, _⟩ := I.pin (a, oe) (List.mem_append.mpr (.inl List.mem_cons_self))
  obtain ⟨vs, hv⟩ := hf
  obtain ⟨mA, hns, hr⟩ := (show ObjOk X.prog X.w H s.heap dd (.xd gs) from I.hok dd _ hd)
  obtain ⟨od, ho, hl⟩ := lookIn_ns hns
  have J : PySem.W.InstAt s.heap a oe D (some od) := by
    obtain ⟨oc, odd, oda, osl⟩ := oe
    obtain ⟨h1, h2⟩ := hz
    dsimp only at h1 h2 hv
    subst h1 h2 hv
    exact ⟨hget, rfl, rfl, ho⟩
  exact PySem.W.kia_one (PySem.W.pm_kitD C) I.kIn J e (fun z => nomatch z) fun tk => ⟨.bl b, H, I.kept (t' := tk) fun _ _ z => z, rfl, q⟩
/-- the classes of exceptions asked about -/
structure XTab (c : Ck) (K : PySem.W.Frag) (t : Tab) : Prop where
  kit : ∀ e ∈ t, PySem.W.kitOne K (tkV c e.1) (tkV c e.2.1) = some e.2.2
  exc : ∀ e ∈ t, ∀ C, e.1 = .cls C → ExcC K (c C)
def eIsx (t : Tab) (e : PX) (i : Nat) (T : Tk) : EM := fun σ h => match σ[i]?, t.at' (.cls e.C) T with
  | some (some .exn), some b => .ok (.bl b) h
  | _, _ => .bad
theorem eIsx_def (t : Tab) (e : PX) (i : Nat) (T : Tk) (σ : LS) (h : VH) : eIsx t e i T σ h = (match σ[i]?, t.at' (.cls e.C) T with
  | some (some .exn), some b => .ok (.bl b) h
  | _, _ => .bad) := (rfl)
theorem Tab.at_mem {t : Tab} {a b : Tk} {r : Bool} (h : t.at' a b = some r) : (a, b, r) ∈ t := by
  unfold Tab.at' at h
  obtain ⟨e, h1, h2⟩ := Option.map_eq_some_iff.mp h
  have m := List.mem_of_find?_eq_some h1
  have p := List.find?_some h1
  rw [Bool.and_eq_true, decide_eq_true_eq, decide_eq_true_eq] at p
  obtain ⟨e1, e2, e3⟩ := e
  simp only at p h2
  rw [p.1, p.2, h2] at m
  exact m
theorem SE.isx {t : Tab} {T : Tk} {tc : Expr} {q1 : Pos} (i : Nat) (XT : XTab c X.K t) (hz : Zc (.ref (c e.C)) (some dd) oe) (hfd : ∃ vs, oe.data = .fields vs) (hg : Gl X "isinstance") (hm : X.mg "isinstance" = none)
    (ht : ∃ v, PE (X.suite a ((a, oe) :: pn)) tc (tC v) ∧ ClsV v (tkV c T)) (hN : X.N[i]? = some x := by rfl) (hv : Vis X.env.scope x := by first | exact Or.inl rfl | exact Or.inr (Or.inl rfl) | exact Or.inr (Or.inr rfl)) (hdb : (x == ("__debug__" : Str)) = false := by decide)
    (hcd : (x == ("__classdict__" : Str)) = false := by decide) (h1 : starEach [.Name x p, tc] X.env = (false, eval (.Name x p) X.env) :: starEach [tc] X.env := by rfl) (h2 : starEach [tc] X.env = (false, eval tc X.env) :: starEach [] X.env := by rfl) (hpl : (backTo pos (starEach [tc] X.env)).any (·.1) = false := by rfl) :
    SE (c.exc a dd e) (X.suite a ((a, oe) :: pn)) W (.Call (.Name "isinstance" q1) [.Name x p, tc] [] pos) (eIsx t e i T) := by
  obtain ⟨v, pv, cv⟩ := ht
  cases hk : t.at' (.cls e.C) T with
  | none =>
    refine ⟨fun _ _ _ => False, ⟨fun _ _ _ _ _ _ z => z.elim⟩, fun g σ h τ H Q rs rh q => ?_⟩
    rw [eIsx_def, hk] at q
    split at q
    · rename_i z; cases z
    · exact q.elim
  | some b =>
    have m := Tab.at_mem hk
    have k1 := XT.kit _ m
    have C := XT.exc _ m _ rfl
    refine ⟨_, pe_callB (X := X.suite a ((a, oe) :: pn)) (call_isD C hz hfd) hg hm PyProof.Rows.boot_isinstance (pa_cons (pe_var (X := X.suite a ((a, oe) :: pn)) (i := i) hN hv hdb hcd) (pa_cons pv pa_nil h2) h1) (by decide) (by decide) h1 hpl, fun g σ h τ H Q rs rh q => ?_⟩
    rw [eIsx_def, hk] at q
    split at q
    · rename_i w e1 e2
      cases e2
      obtain ⟨u, e3, r⟩ := rs.get i .exn e1
      simp only [Rep] at r
      obtain ⟨a', d', e', z, rfl⟩ := r
      cases z
      obtain ⟨gs, hgs, rf⟩ := rh.ex a dd e rfl
      exact ⟨_, e3, v, _, b, gs, rfl, cv, rh.same _ _ hgs, k1, q.go rh repB⟩
    · exact q.elim
end
end Pm
namespace Pm
open PySem PySem.Spec L2 PyProof.Rows

/-! ### zip -/
section
variable {K : PySem.W.Frag} {a b : Addr} {n : Nat}
theorem walkZ : Walk (Itz K a b) n (fun H => ∃ us vs, SqL K H a us ∧ SqL K H b vs ∧ n = min us.length vs.length) (fun i H v H' => ∃ T x y, v = .ref T ∧ H T = none ∧ H' = upd H T (.tup [x, y]) ∧ (∀ us, SqL K H a us → us[i]? = some x) ∧ ∀ vs, SqL K H b vs → vs[i]? = some y) :=
  ⟨fun i H hi ⟨us, vs, q1, q2, e⟩ => ⟨us, vs, us[i]'(by omega), vs[i]'(by omega), q1, q2, by simp [show i < us.length by omega], by simp [show i < vs.length by omega]⟩, fun H ⟨us, vs, q1, q2, e⟩ => ⟨us, vs, q1, q2, by omega⟩, fun _ _ _ _ _ _ y => y⟩
theorem walkZT : Walk (RZ.ItzT K a b) n (fun H => ∃ us vs, SqT K H a us ∧ SqT K H b vs ∧ n = min us.length vs.length) (fun i H v H' => ∃ T x y, v = .ref T ∧ H T = none ∧ H' = upd H T (.tup [x, y]) ∧ (∀ us, SqT K H a us → us[i]? = some x) ∧ ∀ vs, SqT K H b vs → vs[i]? = some y) :=
  ⟨fun i H hi ⟨us, vs, q1, q2, e⟩ => ⟨us, vs, us[i]'(by omega), vs[i]'(by omega), q1, q2, by simp [show i < us.length by omega], by simp [show i < vs.length by omega]⟩, fun H ⟨us, vs, q1, q2, e⟩ => ⟨us, vs, q1, q2, by omega⟩, fun _ _ _ _ _ _ y => y⟩
end
def zipL : List PV → List PV → List PV
  | x :: xs, y :: ys => .tup [x, y] :: zipL xs ys
  | _, _ => []
theorem zipL_length : ∀ xs ys : List PV, (zipL xs ys).length = min xs.length ys.length
  | [], ys => by simp [zipL]
  | _ :: _, [] => by simp [zipL]
  | x :: xs, y :: ys => by simp [zipL, zipL_length xs ys]
theorem zipL_get : ∀ {xs ys : List PV} {i : Nat} {z : PV}, (zipL xs ys)[i]? = some z → ∃ x y, xs[i]? = some x ∧ ys[i]? = some y ∧ z = .tup [x, y]
  | [], _, _, _, h => by simp [zipL] at h
  | _ :: _, [], _, _, h => by simp [zipL] at h
  | x :: xs, y :: ys, 0, z, h => by
    have : PV.tup [x, y] = z := by simpa [zipL] using h
    exact ⟨x, y, rfl, rfl, this.symm⟩
  | x :: xs, y :: ys, i + 1, z, h => by
    obtain ⟨a, b, h1, h2, h3⟩ := zipL_get (xs := xs) (ys := ys) (i := i) (by simpa [zipL] using h)
    exact ⟨a, b, by simpa using h1, by simpa using h2, h3⟩
def srcZip : List PV → VH → Res Src
  | [.tup xs, .tup ys], h => .ok ⟨zipL xs ys, []⟩ h
  | [x, y], h => match lstOf x h, lstOf y h with
    | some xs, some ys => .ok ⟨zipL xs ys, ckOf x h ++ ckOf y h⟩ h
    | _, _ => .bad
  | _, _ => .bad
@[simp] theorem srcZip_tup (xs ys : List PV) (h : VH) : srcZip [.tup xs, .tup ys] h = .ok ⟨zipL xs ys, []⟩ h := rfl
@[simp] theorem srcZip_lst (xs ys : List PV) (h : VH) : srcZip [.lst xs, .lst ys] h = .ok ⟨zipL xs ys, []⟩ h := rfl
theorem srcZip_ok {x y : PV} {h : VH} {xs ys : List PV} (a : lstOf x h = some xs) (b : lstOf y h = some ys) : srcZip [x, y] h = .ok ⟨zipL xs ys, ckOf x h ++ ckOf y h⟩ h := by
  cases x with
  | tup z => cases a
  | _ => cases y with
    | tup z => cases b
    | non => cases b
    | exn => cases b
    | _ => first | (cases a; done) | simp only [srcZip, a, b]
theorem ckOk_app {a b : List (Nat × List PV)} {h : VH} : ckOk (a ++ b) h ↔ ckOk a h ∧ ckOk b h := by
  unfold ckOk
  constructor
  · exact fun q => ⟨fun p hp => q p (List.mem_append_left _ hp), fun p hp => q p (List.mem_append_right _ hp)⟩
  · rintro ⟨q1, q2⟩ p hp
    rcases List.mem_append.mp hp with z | z
    · exact q1 p z
    · exact q2 p z
section
variable {c : Ck} {X : Cx} {W : WX} {pos p : Pos} {e e2 tg : Expr} {es : List Expr} {m : EM} {ms : AM}
def iZp (ms : AM) : LS → VH → Res Src := fun σ h => (ms σ h).bind srcZip
@[simp] theorem iZp_def (σ : LS) (h : VH) : iZp ms σ h = (ms σ h).bind srcZip := (rfl)
theorem SI.zip {elts : List Expr} {kk : Nat} {tpos : Pos} (hg : Gl X "zip") (hm : X.mg "zip" = none) (ha : SA c X W [e, e2] ms) (hs : starEach [e, e2] X.env = (false, eval e X.env) :: starEach [e2] X.env := by rfl) (hpl : (backTo pos (starEach [e2] X.env)).any (·.1) = false := by rfl) :
    SI c X W (.Tuple elts kk tpos) (.Call (.Name "zip" p) [e, e2] [] pos) (iZp ms) := by
  obtain ⟨la, t, pa, s⟩ := ha
  refine ⟨_, RZ.pi_zipA hg hm pa hs hpl, fun g σ h τ H R rs rh q => s g σ h τ H _ rs rh ((Post.bind q).imp (fun us H1 ⟨g1, xs, h1, m1, q1⟩ => ?_) fun _ _ _ z => z)⟩
  unfold srcZip at q1
  split at q1
  · rename_i xs ys
    obtain ⟨u, v, rfl, rx, ry⟩ := m1.rep.two
    obtain ⟨a, us, rfl, s1, r1⟩ := tup_run rx m1.rel
    obtain ⟨b, vs, rfl, s2, r2⟩ := tup_run ry m1.rel
    refine ⟨a, b, us, vs, rfl, .inr ⟨.inl (.inl s1), .inl (.inl s2), q1.go m1.rel ⟨_, _, walkZT, fun g' h' H' l hn rh' _ => ?_, fun i z g' h' H' H2 l hn rh' _ hz u' hu => ?_⟩⟩⟩
    · obtain ⟨a', us', e, s', r'⟩ := tup_run (rx.mono0 l hn) rh'
      cases e
      obtain ⟨b', vs', e, s2', r2'⟩ := tup_run (ry.mono0 l hn) rh'
      cases e
      exact ⟨us', vs', .inl (.inl s'), .inl (.inl s2'), by rw [r'.length, r2'.length, zipL_length]⟩
    · obtain ⟨T, x, y, rfl, nT, rfl, hu1, hu2⟩ := hu
      obtain ⟨zx, zy, e1, e2, rfl⟩ := zipL_get hz
      obtain ⟨a', us', e, s', r'⟩ := tup_run (rx.mono0 l hn) rh'
      cases e
      obtain ⟨b', vs', e, s2', r2'⟩ := tup_run (ry.mono0 l hn) rh'
      cases e
      obtain ⟨w1, f1, q1⟩ := r'.get e1
      obtain ⟨w2, f2, q2⟩ := r2'.get e2
      have z1 := hu1 us' (.inl (.inl s'))
      have z2 := hu2 vs' (.inl (.inl s2'))
      rw [f1] at z1; cases z1
      rw [f2] at z2; cases z2
      obtain ⟨le, rh2⟩ := RelH.frz (o := .tup [x, y]) rh' nT
      refine ⟨_, le, rh2, ?_⟩
      simp only [Rep]
      exact ⟨T, _, rfl, upd_same, Reps.cons (q1.mono le (Nat.le_refl _)) (Reps.cons (q2.mono le (Nat.le_refl _)) Reps.nil)⟩
  · rename_i x0 y0 _
    obtain ⟨u, v, rfl, rx, ry⟩ := m1.rep.two
    split at q1
    · rename_i xs ys ex ey
      obtain ⟨a, us, rfl, s1, r1⟩ := lstOf_run rx m1.rel ex
      obtain ⟨b, vs, rfl, s2, r2⟩ := lstOf_run ry m1.rel ey
      have now : ∀ {g' h' H'}, g1.le0 h1.length g' → h1.length ≤ h'.length → RelH (kx c X) g' h' H' → ckOk (ckOf x0 h1 ++ ckOf y0 h1) h' → ∃ us' vs', SqL X.K H' a us' ∧ SqL X.K H' b vs' ∧ Reps (kx c X) g' h'.length xs us' ∧ Reps (kx c X) g' h'.length ys vs' := fun {g' h' H'} l hn rh' ck => by
        obtain ⟨c1, c2⟩ := ckOk_app.mp ck
        obtain ⟨e1, rx'⟩ := keptL rx m1.rel ex l hn rh' c1
        obtain ⟨e2, ry'⟩ := keptL ry m1.rel ey l hn rh' c2
        obtain ⟨a', us', e, s', r'⟩ := lstOf_run rx' rh' e1
        cases e
        obtain ⟨b', vs', e, s2', r2'⟩ := lstOf_run ry' rh' e2
        cases e
        exact ⟨us', vs', s', s2', r', r2'⟩
      refine ⟨a, b, us, vs, rfl, .inl ⟨s1, s2, q1.go m1.rel ⟨_, _, walkZ, fun g' h' H' l hn rh' ck => ?_, fun i z g' h' H' H2 l hn rh' ck hz u' hu => ?_⟩⟩⟩
      · obtain ⟨us', vs', s', s2', r', r2'⟩ := now l hn rh' ck
        exact ⟨us', vs', s', s2', by rw [r'.length, r2'.length, zipL_length]⟩
      · obtain ⟨T, x, y, rfl, nT, rfl, hu1, hu2⟩ := hu
        obtain ⟨zx, zy, e1, e2, rfl⟩ := zipL_get hz
        obtain ⟨us', vs', s', s2', r', r2'⟩ := now l hn rh' ck
        obtain ⟨w1, f1, q1⟩ := r'.get e1
        obtain ⟨w2, f2, q2⟩ := r2'.get e2
        have z1 := hu1 us' s'
        have z2 := hu2 vs' s2'
        rw [f1] at z1; cases z1
        rw [f2] at z2; cases z2
        obtain ⟨le, rh2⟩ := RelH.frz (o := .tup [x, y]) rh' nT
        refine ⟨_, le, rh2, ?_⟩
        simp only [Rep]
        exact ⟨T, _, rfl, upd_same, Reps.cons (q1.mono le (Nat.le_refl _)) (Reps.cons (q2.mono le (Nat.le_refl _)) Reps.nil)⟩
    · exact q1.elim
  · exact q1.elim

/-! ### a[i] op= v -/
def rGetL (K : PySem.W.Frag) : V → V → Hp → VK → Prop := fun x y H Q => ∃ p xs i v, x = .ref p ∧ y = .int i ∧ 0 ≤ i ∧ SqL K H p xs ∧ xs[i.toNat]? = some v ∧ Q v H
theorem get_listP : PGet X (rGetL X.K) := by
  intro pins s σ H x y u w Q I rx ry q0
  obtain ⟨p, xs, i, v, rfl, rfl, i0, hq, hv, q⟩ := q0
  cases rx
  obtain ⟨t, rfl⟩ := ry
  obtain ⟨its, r, pl, hz⟩ := I.list hq
  obtain ⟨w', ew, rw'⟩ := r.get hv
  have hl := r.length
  have hn := line63
  have hi : i.toNat < xs.length := (List.getElem?_eq_some_iff.mp hv).1
  exact wpAny_getItem_list pl.isList i0 (by omega) (by simpa using ew) ⟨v, H, I, rw', q⟩
/-- the item of a list's cell -/
def getC (x y : PV) (h : VH) : Res PV := match celL x h, y with
  | some (_, xs), .int k => if 0 ≤ k then (match xs[k.toNat]? with
    | some v => .ok v h
    | none => .bad) else .bad
  | _, _ => .bad
theorem getC_ok {i : Nat} {k : Int} {xs : List PV} {v : PV} {h : VH} (e : h[i]? = some (.lst xs)) (k0 : 0 ≤ k) (e1 : xs[k.toNat]? = some v) : getC (.ref i) (.int k) h = .ok v h := by
  simp only [getC, celL_ref e, if_pos k0, e1]
def sAugS (mo mi m : EM) (f : PV → PV → VH → Res PV) : SM := fun σ h => (mo σ h).then σ fun x h1 => (mi σ h1).then σ fun y h2 => (getC x y h2).then σ fun z h3 => (m σ h3).then σ fun v h4 => (f z v h4).then σ fun w h5 => (setP x y w h5).then σ fun _ h6 => .nx σ h6
@[simp] theorem sAugS_def (mo mi m : EM) (f : PV → PV → VH → Res PV) (σ : LS) (h : VH) : sAugS mo mi m f σ h = (mo σ h).then σ fun x h1 => (mi σ h1).then σ fun y h2 => (getC x y h2).then σ fun z h3 => (m σ h3).then σ fun v h4 => (f z v h4).then σ fun w h5 => (setP x y w h5).then σ fun _ h6 => .nx σ h6 := (rfl)
theorem S1.augS {o i : Expr} {mo mi : EM} {op : Operator} {r : R2} {f : PV → PV → VH → Res PV} {tpos : Pos} (ho : SE c X W o mo) (hi : SE c X W i mi) (hop : PIp X op r) (hs : OpS c X r f) (he : SE c X W e m)
    (ha : ∀ ov iv new, augStore i ov iv new = (do holding [new, ov, iv] (setItem ov iv new); release [new, ov, iv] []; pure .next) := by intros; rfl) : S1 c X W (.AugAssign (.Subscript o i tpos) op e pos) (sAugS mo mi m f) := by
  obtain ⟨to, po, so⟩ := ho
  obtain ⟨ti, pi, si⟩ := hi
  obtain ⟨te, pe, se⟩ := he
  refine ⟨_, ps_augS po pi get_listP pe hop set_list ha, fun g σ h τ H D rs rh q => ?_⟩
  refine so g σ h τ H _ rs rh ((PostS.then rs q).imp (fun ux H1 ⟨g1, x, h1, m1, q1⟩ => ?_) fun _ _ _ z => z)
  have rs1 := rs.mono m1.le m1.len
  refine si g1 σ h1 τ H1 _ rs1 m1.rel ((PostS.then rs1 q1).imp (fun uy H2 ⟨g2, y, h2, m2, q2⟩ => ?_) fun _ _ _ z => z)
  have rs2 := rs1.mono m2.le m2.len
  have rx2 := m1.rep.mono m2.le m2.len
  have q2' := PostS.then (R := Rep (kx c X)) rs2 q2
  unfold getC at q2'
  split at q2'
  · rename_i ci xs k e0
    split at q2'
    · rename_i k0
      split at q2'
      · rename_i v e1
        obtain ⟨rfl, rfl, e2, us, hu, r⟩ := celL_run rx2 m2.rel e0
        have ry := m2.rep
        simp only [Rep] at ry
        obtain ⟨w, ew, rw'⟩ := r.get e1
        refine ⟨_, us, k, w, rfl, ry, k0, .inl (.inl hu), ew, ?_⟩
        obtain ⟨g3, z, h3, m3, q3⟩ := q2' g2 w H2 (Gh.le.refl _ _) (Nat.le_refl _) m2.rel rw'
        have rs3 := rs2.mono m3.le m3.len
        refine se g3 σ h3 τ H2 _ rs3 m3.rel ((PostS.then rs3 q3).imp (fun uv H4 ⟨g4, v4, h4, m4, q4⟩ => ?_) fun _ _ _ z => z)
        have rs4 := rs3.mono m4.le m4.len
        refine hs g4 h4 H4 z v4 w uv _ _ (m3.rep.mono m4.le m4.len) m4.rep m4.rel ((PostS.then rs4 q4).imp (fun uw H5 ⟨g5, w5, h5, m5, q5⟩ => ?_) fun _ _ _ z => z)
        have rs5 := rs4.mono m5.le m5.len
        have rx5 := ((rx2.mono m3.le m3.len).mono m4.le m4.len).mono m5.le m5.len
        have ry5 := ((m2.rep.mono m3.le m3.len).mono m4.le m4.len).mono m5.le m5.len
        exact set_run (Q := fun _ H6 => D.nx τ H6) (E := at_ W τ) rx5 ry5 m5.rep m5.rel ((PostS.then (R := fun _ _ _ _ => True) rs5 q5).imp (fun _ H6 ⟨g6, _, h6, m6, q6⟩ => q6 g6 τ H6 (Gh.le.refl _ _) (Nat.le_refl _) m6.rel (rs5.mono m6.le m6.len)) fun _ _ _ z => z)
      · exact q2'.elim
    · exact q2'.elim
  · exact q2'.elim

/-! ### in, not in -/
/-- one of None, a bool, a number, a text -/
def flD : PV → Option PyData
  | .non => some .none
  | .bl b => some (.bool b)
  | .int i => some (.int i)
  | .str s => some (.str s)
  | _ => none
def flDs : List PV → Option (List PyData)
  | [] => some []
  | x :: xs => match flD x, flDs xs with
    | some d, some ds => some (d :: ds)
    | _, _ => none
@[simp] theorem flDs_ints : ∀ ns : List Int, flDs (ns.map PV.int) = some (ns.map PyData.int)
  | [] => rfl
  | n :: ns => by simp [flDs, flD, flDs_ints ns]
@[simp] theorem flDs_strs : ∀ ns : List Str, flDs (ns.map PV.str) = some (ns.map PyData.str)
  | [] => rfl
  | n :: ns => by simp [flDs, flD, flDs_strs ns]
theorem flDs_cons {x : PV} {xs : List PV} {d : PyData} {ds : List PyData} (a : flD x = some d) (b : flDs xs = some ds) : flDs (x :: xs) = some (d :: ds) := by simp [flDs, a, b]
def inP (neg : Bool) (x y : PV) (h : VH) : Res PV := match flD x, (seqOf y h).bind flDs with
  | some d, some ds => .ok (.bl (if neg then !(ds.any fun z => PyData.eqv z d) else ds.any fun z => PyData.eqv z d)) h
  | _, _ => match dat h x, dat h y with
    | some d, some (.list ds) => if d.canLay0 = true ∧ PyData.canLayAll0 ds = true then .ok (.bl (if neg then !(ds.any fun z => PyData.eqv z d) else ds.any fun z => PyData.eqv z d)) h else .bad
    | _, _ => .bad
theorem inP_flat {neg : Bool} {x y : PV} {h : VH} {d : PyData} {ys : List PV} {ds : List PyData} (a : flD x = some d) (b : seqOf y h = some ys) (e : flDs ys = some ds) : inP neg x y h = .ok (.bl (if neg then !(ds.any fun z => PyData.eqv z d) else ds.any fun z => PyData.eqv z d)) h := by
  simp only [inP, a, b, e, Option.bind_some]
theorem flD_run {K : Kc} {g : Gh} {n : Nat} {x : PV} {u : V} {d : PyData} (r : Rep K g n x u) (e : flD x = some d) : flatV u = true ∧ ∀ (y : PV) (v : V) (d' : PyData), Rep K g n y v → flD y = some d' → eqV v u = PyData.eqv d' d := by
  cases x with
  | non => cases e; simp only [Rep] at r; subst r; refine ⟨rfl, fun y v d' ry ey => ?_⟩; cases y <;> (first | (cases ey; simp only [Rep] at ry; subst ry; simp [eqV, PyData.eqv]) | cases ey)
  | bl b => cases e; simp only [Rep] at r; subst r; refine ⟨rfl, fun y v d' ry ey => ?_⟩; cases y <;> (first | (cases ey; simp only [Rep] at ry; subst ry; simp [eqV, PyData.eqv]) | cases ey)
  | int b => cases e; simp only [Rep] at r; subst r; refine ⟨rfl, fun y v d' ry ey => ?_⟩; cases y <;> (first | (cases ey; simp only [Rep] at ry; subst ry; simp [eqV, PyData.eqv]) | cases ey)
  | str b => cases e; simp only [Rep] at r; subst r; refine ⟨rfl, fun y v d' ry ey => ?_⟩; cases y <;> (first | (cases ey; simp only [Rep] at ry; subst ry; simp [eqV, PyData.eqv]) | cases ey)
  | _ => cases e
theorem flDs_run {K : Kc} {g : Gh} {n : Nat} {x : PV} {u : V} {d : PyData} (r : Rep K g n x u) (e : flD x = some d) : ∀ {ys : List PV} {vs : List V} {ds : List PyData}, Reps K g n ys vs → flDs ys = some ds → vs.all flatV = true ∧ inV u vs = ds.any fun z => PyData.eqv z d
  | [], _, _, ry, ey => by
    simp only [Reps] at ry
    subst ry
    cases ey
    exact ⟨rfl, rfl⟩
  | y :: ys, _, _, ry, ey => by
    simp only [Reps] at ry
    obtain ⟨v, vs, rfl, a, b⟩ := ry
    unfold flDs at ey
    split at ey
    · rename_i d1 ds1 e1 e2
      cases ey
      obtain ⟨h1, h2⟩ := flDs_run r e b e2
      have h3 := (flD_run r e).2 y v d1 a e1
      refine ⟨by simp [(flD_run a e1).1, h1], ?_⟩
      have h4 : inV u (v :: vs) = (eqV v u || inV u vs) := rfl
      rw [h4, h2, h3, List.any_cons]
    · cases ey
def rInAll (K : PySem.W.Frag) (neg : Bool) : R2 := fun x y H Q => rIn K neg x y H Q ∨ (if neg then rNotInD K else rInD K) x y H Q
theorem op_inAll (hu : X.A.units + 65 < cLine) : OpR X (compareOp .In) (rInAll X.K false) := op_in_seq.or (op_inD hu)
theorem op_notInAll (hu : X.A.units + 65 < cLine) : OpR X (compareOp .NotIn) (rInAll X.K true) := op_notIn_seq.or (op_notInD hu)
theorem inS (neg : Bool) : OpS c X (rInAll X.K neg) (inP neg) := fun g h H x y u v Q E rx ry rh p => by
  unfold inP at p
  split at p
  · rename_i d ds e1 e2
    obtain ⟨ys, e3, e4⟩ := Option.bind_eq_some_iff.mp e2
    obtain ⟨a, us, rfl, s, r⟩ := seqOf_run ry rh e3
    obtain ⟨f1, f2⟩ := flDs_run rx e1 r e4
    exact .inl ⟨a, us, rfl, s, (flD_run rx e1).1, f1, by rw [f2]; exact p.go rh repB⟩
  · split at p
    · rename_i d ds e1 e2
      split at p
      · rename_i z
        obtain ⟨a1, a2⟩ := toD_run rh 12 rx e1
        obtain ⟨b1, b2⟩ := toD_run rh 12 ry e2
        refine .inr ?_
        cases neg with
        | false => exact ⟨d, ds, a1, b1, shaped_of z.1 a2, shaped_of z.2 b2, p.go rh repB⟩
        | true => exact ⟨d, ds, a1, b1, shaped_of z.1 a2, shaped_of z.2 b2, p.go rh repB⟩
      · exact p.elim
    · exact p.elim
end
theorem un1 {k : Nat} {A : Around} (h : L2.Room k A) : A.units + 65 < cLine := by have := h.un; omega
end Pm
namespace Pm
open PySem PySem.Spec L2 PyProof.Rows
/-! ### comprehensions by place -/
section
variable {ck : List (Nat × List PV)} {ws : List Nat} {gm : GM} {mt : TM} {me : EM} {σ : LS}
theorem comp_at {xs : List PV} {h : VH} (hck : ckOk ck h) (p : Nat → Bool) (f : Nat → PV)
    (hx : ∀ i x, xs[i]? = some x → ∃ σ2, gm x (wipeL σ ws) h = .ok σ2 h ∧ mt σ2 h = .ok (p i) h ∧ (p i = true → me σ2 h = .ok (f i) h)) (hl : xs.length ≤ 16777216) :
    compL ck ws gm mt me σ xs [] h = .ok (((List.range xs.length).filter p).map f) h := by
  obtain ⟨acc, h', e, e1, e2⟩ := comp_go (ck := ck) (ws := ws) (gm := gm) (mt := mt) (me := me) (σ := σ) (xs := xs) (h := h) (fun i acc h' => h' = h ∧ acc = ((List.range i).filter p).map f) ⟨rfl, rfl⟩
    (fun i x acc h' hi ⟨q1, q2⟩ => by
      subst q1
      obtain ⟨σ2, a, b, c⟩ := hx i x hi
      refine ⟨hck, σ2, h', p i, h', a, b, ?_⟩
      rw [List.range_succ, List.filter_append, List.map_append, ← q2]
      cases z : p i with
      | false => simp [z]
      | true =>
        simp only [if_true]
        refine ⟨f i, h', c z, ?_, rfl, by simp [z]⟩
        have := (List.getElem?_eq_some_iff.mp hi).1
        have l := List.length_filter_le p (List.range i)
        rw [q2, List.length_map]
        simp only [List.length_range] at l; omega)
    (fun acc h' ⟨q1, q2⟩ => by subst q1; exact hck)
  rw [e, e1, e2]
theorem comp_ints {xs : List PV} {h : VH} (hck : ckOk ck h) {n : Nat} (hn : xs.length = n) (f : Nat → Int)
    (hx : ∀ i x, xs[i]? = some x → ∃ σ2, gm x (wipeL σ ws) h = .ok σ2 h ∧ mt σ2 h = .ok true h ∧ me σ2 h = .ok (.int (f i)) h) (hl : n ≤ 16777216) :
    compL ck ws gm mt me σ xs [] h = .ok (((List.range n).map f).map PV.int) h := by
  rw [comp_at hck (fun _ => true) (fun i => .int (f i)) (fun i x hi => by obtain ⟨s, a, b, c⟩ := hx i x hi; exact ⟨s, a, b, fun _ => c⟩) (by omega), List.filter_eq_self.mpr (by simp), hn, List.map_map]
  rfl
/-- over a range -/
theorem comp_rng {n : Nat} {h : VH} (hck : ckOk ck h) (f : Nat → Int) (hx : ∀ i : Nat, i < n → ∃ σ2, gm (.int (i : Int)) (wipeL σ ws) h = .ok σ2 h ∧ mt σ2 h = .ok true h ∧ me σ2 h = .ok (.int (f i)) h) (hl : n ≤ 16777216) :
    compL ck ws gm mt me σ (rngL 0 n) [] h = .ok (((List.range n).map f).map PV.int) h :=
  comp_ints hck (by simp [rngL]) f (fun i x hi => by
    have hi' : i < n := by have := (List.getElem?_eq_some_iff.mp hi).1; simpa [rngL] using this
    have : x = .int (i : Int) := by
      simp [rngL, hi'] at hi; exact hi.symm
    subst this
    exact hx i hi') hl
theorem comp_rngF {n : Nat} {h : VH} (hck : ckOk ck h) (p : Nat → Bool) (f : Nat → PV) (hx : ∀ i : Nat, i < n → ∃ σ2, gm (.int (i : Int)) (wipeL σ ws) h = .ok σ2 h ∧ mt σ2 h = .ok (p i) h ∧ (p i = true → me σ2 h = .ok (f i) h)) (hl : n ≤ 16777216) :
    compL ck ws gm mt me σ (rngL 0 n) [] h = .ok (((List.range n).filter p).map f) h := by
  have e : (rngL 0 n).length = n := by simp [rngL]
  rw [comp_at hck p f (fun i x hi => by
    have hi' : i < n := by have := (List.getElem?_eq_some_iff.mp hi).1; rwa [e] at this
    have : x = .int (i : Int) := by
      simp [rngL, hi'] at hi; exact hi.symm
    subst this
    exact hx i hi') (by omega), e]
end
theorem rng_get {n i : Nat} {x : PV} (h : (rngL 0 n)[i]? = some x) : i < n ∧ x = .int (i : Int) := by
  have hi' : i < n := by have := (List.getElem?_eq_some_iff.mp h).1; simpa [rngL] using this
  refine ⟨hi', ?_⟩
  simp [rngL, hi'] at h; exact h.symm
@[simp] theorem rng_len (n : Nat) : (rngL 0 n).length = n := by simp [rngL]
theorem srcRngN {n : Nat} (h : VH) (hn : n ≤ 1000000) : srcRng [.int (n : Int)] h = .ok ⟨rngL 0 n, []⟩ h := by rw [srcRng1 (by omega), Int.toNat_natCast]
theorem ints_get {L : List Int} {i : Nat} {x : PV} (h : (L.map PV.int)[i]? = some x) : i < L.length ∧ x = .int (L.getD i 0) := by
  have hi : i < L.length := by have := (List.getElem?_eq_some_iff.mp h).1; simpa using this
  refine ⟨hi, ?_⟩
  simp [hi] at h
  simp [List.getD_eq_getElem?_getD, hi, h]
theorem map_getD (L : List Int) : (List.range L.length).map (fun i => L.getD i 0) = L := by
  apply List.ext_getElem
  · simp
  · intro i h1 h2; simp [List.getD_eq_getElem?_getD, h2]
theorem ixN_tup {L : List Int} {i : Nat} (h : VH) (hi : i < L.length) : ixP (.tup (L.map PV.int)) (.int (i : Int)) h = .ok (.int (L.getD i 0)) h := ixP_tup (by omega) (by simp [hi])
theorem ixN_lst {L : List Int} {i : Nat} (h : VH) (hi : i < L.length) : ixP (.lst (L.map PV.int)) (.int (i : Int)) h = .ok (.int (L.getD i 0)) h := ixP_lst (by omega) (by simp [hi])
@[simp] theorem slP_lstL (xs : List PV) (lo hi : Option Int) (h : VH) : slP false (.lst xs) lo hi h = .ok (.lst (cutP xs lo hi)) h := (rfl)
theorem addP_ll {xs ys : List PV} (h : VH) (l : xs.length + ys.length ≤ 16777216) : addP false (.lst xs) (.lst ys) h = .ok (.lst (xs ++ ys)) h := by rw [addP_lst, if_pos l]; rfl
theorem addP_tt {xs ys : List PV} (h : VH) (l : xs.length + ys.length ≤ 16777216) : addP false (.tup xs) (.tup ys) h = .ok (.tup (xs ++ ys)) h := if_pos l
theorem pmT : type_of% (And.intro @iZp_def (And.intro @srcZip_lst (And.intro @srcZip_tup (And.intro @sAugS_def @slP_lstL)))) := ⟨@iZp_def, @srcZip_lst, @srcZip_tup, @sAugS_def, @slP_lstL⟩
end Pm
namespace Pm
open PySem PySem.Spec L2 PyProof.Rows
theorem enumL_get {xs : List PV} {i : Nat} {x : PV} (h : (enumL xs)[i]? = some x) : ∃ y, xs[i]? = some y ∧ x = .tup [.int (i : Int), y] := by
  unfold enumL at h
  rw [List.getElem?_mapIdx] at h
  cases e : xs[i]? with
  | none => rw [e] at h; cases h
  | some y => rw [e] at h; cases h; exact ⟨y, rfl, rfl⟩
theorem pmU : type_of% (And.intro @srcEnum_lst @Turn'_nx) := ⟨@srcEnum_lst, @Turn'_nx⟩
end Pm
namespace Pm
open PySem PySem.Spec L2 PyProof.Rows
/-! ### loops within a goal -/
section
variable {ck : List (Nat × List PV)} {gm : GM} {body rest : SM} {xs : List PV} {σ : LS} {h hh : VH} {X : Res PV}
theorem for_bind (I : Nat → LS → VH → Prop) (h0 : I 0 σ h)
    (step : ∀ i x σ h, xs[i]? = some x → I i σ h → ckOk ck h ∧ ∃ σ1 h1, gm x σ h = .ok σ1 h1 ∧ Turn' (I (i + 1)) (fun r => fin hh (r.bind rest) = X) (body σ1 h1))
    (hd : ∀ σ h, I xs.length σ h → ckOk ck h ∧ fin hh (rest σ h) = X) : fin hh ((forL ck gm body xs σ h).bind rest) = X :=
  for_go (R := fun r => fin hh (r.bind rest) = X) I h0 step hd
theorem for_turn {J : LS → VH → Prop} {R : SR → Prop} (I : Nat → LS → VH → Prop) (h0 : I 0 σ h)
    (step : ∀ i x σ h, xs[i]? = some x → I i σ h → ckOk ck h ∧ ∃ σ1 h1, gm x σ h = .ok σ1 h1 ∧ Turn' (I (i + 1)) (fun r => Turn' J R (r.bind rest)) (body σ1 h1))
    (hd : ∀ σ h, I xs.length σ h → ckOk ck h ∧ Turn' J R (rest σ h)) : Turn' J R ((forL ck gm body xs σ h).bind rest) :=
  for_go (R := fun r => Turn' J R (r.bind rest)) I h0 step hd
theorem for_last {J : LS → VH → Prop} {R : SR → Prop} (I : Nat → LS → VH → Prop) (h0 : I 0 σ h)
    (step : ∀ i x σ h, xs[i]? = some x → I i σ h → ckOk ck h ∧ ∃ σ1 h1, gm x σ h = .ok σ1 h1 ∧ Turn' (I (i + 1)) (fun r => Turn' J R r) (body σ1 h1))
    (hd : ∀ σ h, I xs.length σ h → ckOk ck h ∧ J σ h) : Turn' J R (forL ck gm body xs σ h) :=
  for_go (R := fun r => Turn' J R r) I h0 step hd
theorem for_fin (I : Nat → LS → VH → Prop) (h0 : I 0 σ h)
    (step : ∀ i x σ h, xs[i]? = some x → I i σ h → ckOk ck h ∧ ∃ σ1 h1, gm x σ h = .ok σ1 h1 ∧ Turn' (I (i + 1)) (fun r => fin hh r = X) (body σ1 h1))
    (hd : ∀ σ h, I xs.length σ h → ckOk ck h ∧ fin hh (.nx σ h) = X) : fin hh (forL ck gm body xs σ h) = X :=
  for_go (R := fun r => fin hh r = X) I h0 step hd
/-- a loop that always goes on -/
theorem for_ex (I : Nat → LS → VH → Prop) (h0 : I 0 σ h)
    (step : ∀ i x σ h, xs[i]? = some x → I i σ h → ckOk ck h ∧ ∃ σ1 h1, gm x σ h = .ok σ1 h1 ∧ Turn' (I (i + 1)) (fun _ => False) (body σ1 h1))
    (hd : ∀ σ h, I xs.length σ h → ckOk ck h) : ∃ σ' h', forL ck gm body xs σ h = .nx σ' h' ∧ I xs.length σ' h' := by
  refine for_go (R := fun r => ∃ σ' h', r = .nx σ' h' ∧ I xs.length σ' h') I h0 (fun i x σ h hx q => ?_) fun σ h q => ⟨hd σ h q, σ, h, rfl, q⟩
  obtain ⟨a, σ1, h1, b, c⟩ := step i x σ h hx q
  refine ⟨a, σ1, h1, b, ?_⟩
  generalize body σ1 h1 = r at c
  cases r with
  | nx σ h => exact c
  | ct σ h => exact c
  | _ => exact c.elim
end
theorem for_exE {ck : List (Nat × List PV)} {gm : GM} {body : SM} {xs : List PV} {σ : LS} {h : VH} {E : SR} (hE : forL ck gm body xs σ h = E) (I : Nat → LS → VH → Prop) (h0 : I 0 σ h)
    (step : ∀ i x σ h, xs[i]? = some x → I i σ h → ckOk ck h ∧ ∃ σ1 h1, gm x σ h = .ok σ1 h1 ∧ Turn' (I (i + 1)) (fun _ => False) (body σ1 h1))
    (hd : ∀ σ h, I xs.length σ h → ckOk ck h) : ∃ σ' h', E = .nx σ' h' ∧ I xs.length σ' h' := by
  obtain ⟨a, b, c, d⟩ := for_ex I h0 step hd
  exact ⟨a, b, hE.symm.trans c, d⟩
theorem comp_goE {ck : List (Nat × List PV)} {ws : List Nat} {gm : GM} {mt : TM} {me : EM} {σ : LS} {xs : List PV} {h : VH} {E : Res (List PV)} (hE : compL ck ws gm mt me σ xs [] h = E) (I : Nat → List PV → VH → Prop) (h0 : I 0 [] h) (step : ∀ i x acc h, xs[i]? = some x → I i acc h → ckOk ck h ∧ ∃ σ2 h2 b h3, gm x (wipeL σ ws) h = .ok σ2 h2 ∧ mt σ2 h2 = .ok b h3 ∧
      (if b = true then ∃ y h4, me σ2 h3 = .ok y h4 ∧ acc.length < 16777216 ∧ I (i + 1) (acc ++ [y]) h4 else I (i + 1) acc h3)) (hd : ∀ acc h, I xs.length acc h → ckOk ck h) :
    ∃ acc' h', E = .ok acc' h' ∧ I xs.length acc' h' := by
  obtain ⟨a, b, c, d⟩ := comp_go I h0 step hd
  exact ⟨a, b, hE.symm.trans c, d⟩
/-! ### plain values -/
/-- its kind -/
def kd : PV → Option String
  | .non => some "NoneType"
  | .bl _ => some "bool"
  | .int _ => some "int"
  | .str _ => some "str"
  | .tup _ => some "tuple"
  | .lst _ => some "list"
  | _ => none
def isIntV : PV → Bool
  | .int _ => true
  | _ => false
def isBelowV (v : PV) (b : Int) : Bool := match v with
  | .int i => decide (0 ≤ i ∧ i < b)
  | _ => false
def isNumV : PV → Bool
  | .int i => decide (0 ≤ i)
  | _ => false
def rowBelowV (v : PV) (n : Nat) (b : Int) : Bool := match v with
  | .tup xs => decide (xs.length = n) && xs.all fun x => isBelowV x b
  | _ => false
def kdRow : PV → Prop
  | .tup xs => ∀ x ∈ xs, (kd x).isSome
  | v => (kd v).isSome
theorem kdRow_kd {v : PV} (h : kdRow v) : (kd v).isSome := by
  cases v with
  | tup xs => rfl
  | _ => exact h
/-- data, wherever it is read; to so deep, of so much weight -/
structure Rp (n w : Nat) (v : PV) (d : PyData) : Prop where
  dat : ∀ h, toD h n v = some d
  lay : d.canLay0 = true
  sh : d.showable = true
  wt : wt d ≤ w
theorem Rp.int {n w : Nat} {i : Int} (b : i.natAbs < 2 ^ 100) (hw : 103 ≤ w) : Rp n w (.int i) (.int i) := by
  refine ⟨fun h => toD_int i, by simp [PyData.canLay0], ?_, ?_⟩
  · have : i.natAbs.log2 < 1920 := by
      by_cases z : i.natAbs = 0
      · rw [z]; decide
      · exact Nat.lt_trans ((Nat.log2_lt z).mpr b) (by omega)
    simpa [PyData.showable] using this
  · rw [wt_int]
    by_cases z : i.natAbs = 0
    · rw [z]; simp; omega
    · have := (Nat.log2_lt z).mpr b; omega
theorem Rp.bl {n w : Nat} {b : Bool} (hw : 5 ≤ w) : Rp n w (.bl b) (.bool b) := ⟨fun h => toD_bl b, by simp [PyData.canLay0], by simp [PyData.showable], by simpa using hw⟩
theorem Rp.non {n w : Nat} (hw : 4 ≤ w) : Rp n w .non .none := ⟨fun h => toD_non, by simp [PyData.canLay0], by simp [PyData.showable], by simpa using hw⟩
theorem Rp.str {n w : Nat} {s : Str} (ho : PyData.strOk s = true) (hw : 10 * s.length + 2 ≤ w) : Rp n w (.str s) (.str s) := ⟨fun h => toD_str s, by simp [PyData.canLay0, ho], by simp [PyData.showable], by rw [wt_str]; exact hw⟩
theorem Rp.up {n w w' : Nat} {v : PV} {d : PyData} (r : Rp n w v d) (h : w ≤ w') : Rp n w' v d := ⟨r.dat, r.lay, r.sh, Nat.le_trans r.wt h⟩
def Rps (n w : Nat) : List PV → List PyData → Prop
  | [], ds => ds = []
  | x :: xs, ds => ∃ d es, ds = d :: es ∧ Rp n w x d ∧ Rps n w xs es
section
variable {n w : Nat}
theorem Rps.nil : Rps n w [] [] := rfl
theorem Rps.cons {x : PV} {xs : List PV} {d : PyData} {ds : List PyData} (a : Rp n w x d) (b : Rps n w xs ds) : Rps n w (x :: xs) (d :: ds) := ⟨d, ds, rfl, a, b⟩
theorem Rps.one {x : PV} {d : PyData} (a : Rp n w x d) : Rps n w [x] [d] := .cons a .nil
theorem Rps.append : ∀ {xs ys : List PV} {ds es : List PyData}, Rps n w xs ds → Rps n w ys es → Rps n w (xs ++ ys) (ds ++ es)
  | [], _, _, _, h, k => by cases h; exact k
  | x :: xs, _, _, _, h, k => by
    obtain ⟨d, es, rfl, a, b⟩ := h
    exact ⟨d, _, rfl, a, b.append k⟩
theorem Rps.take : ∀ (k : Nat) {xs : List PV} {ds : List PyData}, Rps n w xs ds → Rps n w (xs.take k) (ds.take k)
  | 0, _, _, _ => rfl
  | k + 1, [], _, h => by cases h; rfl
  | k + 1, x :: xs, _, h => by obtain ⟨d, es, rfl, a, b⟩ := h; exact ⟨d, _, rfl, a, b.take k⟩
theorem Rps.drop : ∀ (k : Nat) {xs : List PV} {ds : List PyData}, Rps n w xs ds → Rps n w (xs.drop k) (ds.drop k)
  | 0, _, _, h => h
  | k + 1, [], _, h => by cases h; rfl
  | k + 1, x :: xs, _, h => by obtain ⟨d, es, rfl, a, b⟩ := h; exact b.drop k
theorem Rps.map {α : Type} {f : α → PV} {q : α → PyData} : ∀ {L : List α}, (∀ a ∈ L, Rp n w (f a) (q a)) → Rps n w (L.map f) (L.map q)
  | [], _ => rfl
  | a :: L, h => ⟨q a, L.map q, rfl, h a List.mem_cons_self, Rps.map fun b hb => h b (List.mem_cons_of_mem _ hb)⟩
theorem Rps.ints {L : List Int} (h : ∀ i ∈ L, i.natAbs < 2 ^ 100) (hw : 103 ≤ w) : Rps n w (L.map PV.int) (L.map PyData.int) := Rps.map fun i hi => Rp.int (h i hi) hw
theorem Rps.all : ∀ {xs : List PV} {ds : List PyData}, Rps n w xs ds → (∀ h, allD (toD h n) xs = some ds) ∧ PyData.canLayAll0 ds = true ∧ PyData.showableAll ds = true ∧ wtAll ds ≤ xs.length * (w + 2)
  | [], _, h => by cases h; exact ⟨fun h => rfl, rfl, rfl, by simp⟩
  | x :: xs, _, h => by
    obtain ⟨d, es, rfl, a, b⟩ := h
    obtain ⟨b1, b2, b3, b4⟩ := Rps.all b
    refine ⟨fun h => allD_cons (a.dat h) (b1 h), by simp [PyData.canLayAll0, a.lay, b2], by simp [PyData.showableAll, a.sh, b3], ?_⟩
    rw [wtAll_cons, List.length_cons, Nat.succ_mul]
    have := a.wt; omega
theorem Rp.tup {xs : List PV} {ds : List PyData} {W : Nat} (r : Rps n w xs ds) (h : xs.length * (w + 2) + 4 ≤ W) : Rp (n + 1) W (.tup xs) (.tuple ds) := by
  obtain ⟨a, b, c, d⟩ := r.all
  exact ⟨fun h => by rw [toD_tup, a h]; rfl, by simpa [PyData.canLay0] using b, by simpa [PyData.showable] using c, by rw [wt_tuple]; omega⟩
theorem Rp.lst {xs : List PV} {ds : List PyData} {W : Nat} (r : Rps n w xs ds) (h : xs.length * (w + 2) + 4 ≤ W) : Rp (n + 1) W (.lst xs) (.list ds) := by
  obtain ⟨a, b, c, d⟩ := r.all
  exact ⟨fun h => by rw [toD_lst, a h]; rfl, by simpa [PyData.canLay0] using b, by simpa [PyData.showable] using c, by rw [wt_list]; omega⟩
end
/-- what repr gives -/
theorem Rp.repr {w : Nat} {v : PV} {d : PyData} (r : Rp 12 w v d) (hw : w ≤ 16777216) (h : VH) : reprP v h = .ok (.str d.shown) h := reprP_ok (r.dat h) ⟨r.lay, r.sh, Nat.le_trans r.wt hw⟩
/-- a plain value: kinds, data, nothing that can be written -/
structure Pv (n w : Nat) (v : PV) : Prop where
  kd : (kd v).isSome
  row : kdRow v
  cl : ∀ m, closedV m v
  clean : cleanV v
  sh : ∃ d, Rp n w v d
section
variable {n w : Nat}
theorem Pv.int {i : Int} (b : i.natAbs < 2 ^ 100) (hw : 103 ≤ w) : Pv n w (.int i) := ⟨rfl, rfl, fun m => by simp, by simp, _, Rp.int b hw⟩
theorem Pv.bl {b : Bool} (hw : 5 ≤ w) : Pv n w (.bl b) := ⟨rfl, rfl, fun m => by simp, by simp, _, Rp.bl hw⟩
theorem Pv.non (hw : 4 ≤ w) : Pv n w .non := ⟨rfl, rfl, fun m => by simp, by simp, _, Rp.non hw⟩
theorem Pv.str {s : Str} (ho : PyData.strOk s = true) (hw : 10 * s.length + 2 ≤ w) : Pv n w (.str s) := ⟨rfl, rfl, fun m => by simp, by simp, _, Rp.str ho hw⟩
theorem Pv.up {w' : Nat} {v : PV} (p : Pv n w v) (h : w ≤ w') : Pv n w' v := ⟨p.kd, p.row, p.cl, p.clean, let ⟨d, r⟩ := p.sh; ⟨d, r.up h⟩⟩
theorem Pv.rps : ∀ {xs : List PV}, (∀ x ∈ xs, Pv n w x) → ∃ ds, Rps n w xs ds
  | [], _ => ⟨[], .nil⟩
  | x :: xs, h => by
    obtain ⟨d, r⟩ := (h x List.mem_cons_self).sh
    obtain ⟨ds, rs⟩ := Pv.rps fun y hy => h y (List.mem_cons_of_mem _ hy)
    exact ⟨d :: ds, .cons r rs⟩
theorem Pv.tup {xs : List PV} {W : Nat} (h : ∀ x ∈ xs, Pv n w x) (hl : xs.length * (w + 2) + 4 ≤ W) : Pv (n + 1) W (.tup xs) := by
  obtain ⟨ds, r⟩ := Pv.rps h
  exact ⟨rfl, fun x hx => (h x hx).kd, fun m => by rw [closedV_tup, closedVs_iff]; exact fun x hx => (h x hx).cl m, by rw [cleanV_tup, cleanVs_iff]; exact fun x hx => (h x hx).clean, _, Rp.tup r hl⟩
theorem Pv.lst {xs : List PV} {W : Nat} (h : ∀ x ∈ xs, Pv n w x) (hl : xs.length * (w + 2) + 4 ≤ W) : Pv (n + 1) W (.lst xs) := by
  obtain ⟨ds, r⟩ := Pv.rps h
  exact ⟨rfl, rfl, fun m => by rw [closedV_lst, closedVs_iff]; exact fun x hx => (h x hx).cl m, by rw [cleanV_lst, cleanVs_iff]; exact fun x hx => (h x hx).clean, _, Rp.lst r hl⟩
theorem Pv.ints {f : List Int} (h : ∀ i ∈ f, i.natAbs < 2 ^ 100) (hw : 103 ≤ w) : ∀ x ∈ f.map PV.int, Pv n w x := fun x hx => by
  obtain ⟨i, hi, rfl⟩ := List.mem_map.mp hx; exact Pv.int (h i hi) hw
end
theorem Pv.repr {w : Nat} {v : PV} (p : Pv 12 w v) (hw : w ≤ 16777216) : ∃ s, ∀ h, reprP v h = .ok (.str s) h := by
  obtain ⟨d, r⟩ := p.sh; exact ⟨_, r.repr hw⟩
theorem rowBelow_len {xs : List PV} {n : Nat} {b : Int} (h : xs.length ≠ n) : rowBelowV (.tup xs) n b = false := by simp [rowBelowV, h]
theorem rowBelow_mem {xs : List PV} {n : Nat} {b : Int} {x : PV} (h : x ∈ xs) (hx : isBelowV x b = false) : rowBelowV (.tup xs) n b = false := by
  have : (xs.all fun x => isBelowV x b) = false := by
    cases z : xs.all fun x => isBelowV x b with
    | false => rfl
    | true => rw [List.all_eq_true] at z; rw [z x h] at hx; cases hx
  rw [rowBelowV, this, Bool.and_false]
theorem pick_lst {xs : List PV} {t : Int} (h0 : 0 ≤ t) (h1 : t < (xs.length : Int)) : ∃ v ∈ xs, ∀ h, ixP (.lst xs) (.int t) h = .ok v h := by
  have : t.toNat < xs.length := by omega
  exact ⟨xs[t.toNat], List.getElem_mem this, fun h => ixP_lst h0 (by simp [this])⟩
theorem pick_ref {xs : List PV} {t : Int} {k : Nat} {h : VH} (e : h[k]? = some (.lst xs)) (h0 : 0 ≤ t) (h1 : t < (xs.length : Int)) : ∃ v ∈ xs, ixP (.ref k) (.int t) h = .ok v h := by
  have : t.toNat < xs.length := by omega
  exact ⟨xs[t.toNat], List.getElem_mem this, ixP_ref e h0 (by simp [this])⟩
theorem cut_to {L : List PV} {k : Nat} (h : k ≤ L.length) : cutP L none (some (k : Int)) = L.take k := by
  unfold cutP
  rw [HT.sIx_none, HT.sIx_nat, Nat.min_eq_left h]; simp
theorem cut_from {L : List PV} {k : Nat} (h : k ≤ L.length) : cutP L (some (k : Int)) none = L.drop k := by
  unfold cutP
  rw [HT.sIx_none, HT.sIx_nat, Nat.min_eq_left h]; exact List.take_of_length_le (by simp)
theorem cut_last {L : List PV} : cutP L none (some (-1)) = L.take (L.length - 1) := by
  unfold cutP
  rw [HT.sIx_none]
  have : HT.sIx L.length L.length (some (-1)) = L.length - 1 := by
    show (if (-1 : Int) < 0 then ((-1 : Int) + (L.length : Int)).toNat else min (-1 : Int).toNat L.length) = _
    rw [if_pos (by omega)]; omega
  rw [this]; simp
/-- a row with one member put in the place of another -/
def cutAt (f : List PV) (at' : Nat) (x : PV) : List PV := f.take at' ++ [x] ++ f.drop (at' + 1)
theorem cutAt_sub {f : List PV} {at' : Nat} {x y : PV} (hy : y ∈ cutAt f at' x) : y = x ∨ y ∈ f := by
  rcases List.mem_append.mp hy with q | q
  · rcases List.mem_append.mp q with q | q
    · exact .inr (List.mem_of_mem_take q)
    · exact .inl (List.mem_singleton.mp q)
  · exact .inr (List.mem_of_mem_drop q)
theorem cutAt_mem {f : List PV} {at' : Nat} {x : PV} : x ∈ cutAt f at' x := by simp [cutAt]
theorem cutAt_len (f : List PV) (at' : Nat) (x : PV) : (cutAt f at' x).length ≤ f.length + 1 := by simp [cutAt]; omega
/-! ### growing heaps -/
theorem lstOf_app {v : PV} {h K : VH} {xs : List PV} (e : lstOf v h = some xs) : lstOf v (h ++ K) = some xs := by
  cases v with
  | ref i =>
    simp only [lstOf] at e ⊢
    cases z : h[i]? with
    | none => rw [z] at e; cases e
    | some o =>
      have hi := (List.getElem?_eq_some_iff.mp z).1
      rw [List.getElem?_append_left hi, z]
      rw [z] at e; exact e
  | lst xs => exact e
  | scr xs => exact e
  | _ => cases e
theorem ckOf_app {v : PV} {h K : VH} {xs : List PV} (e : lstOf v h = some xs) : ckOk (ckOf v h) (h ++ K) := by
  cases v with
  | ref i =>
    simp only [lstOf] at e
    cases z : h[i]? with
    | none => rw [z] at e; cases e
    | some o =>
      have hi := (List.getElem?_eq_some_iff.mp z).1
      rw [z] at e
      cases o with
      | lst ys =>
        rw [ckOf_ref z]
        intro p hp
        rw [List.mem_singleton.mp hp, List.getElem?_append_left hi, z]
      | _ => cases e
  | _ => intro p hp; cases hp
theorem ckOf_eq {v : PV} {h K : VH} {xs : List PV} (e : lstOf v h = some xs) : ckOf v (h ++ K) = ckOf v h := by
  cases v with
  | ref i =>
    simp only [lstOf] at e
    cases z : h[i]? with
    | none => rw [z] at e; cases e
    | some o =>
      have hi := (List.getElem?_eq_some_iff.mp z).1
      unfold ckOf
      simp only [List.getElem?_append_left hi, z]
  | _ => rfl
theorem ckOf_same {v : PV} {h : VH} {xs : List PV} (e : lstOf v h = some xs) : ckOk (ckOf v h) h := by
  have := ckOf_app (K := []) e
  rwa [List.append_nil] at this
theorem srcEnum_at {v : PV} {h : VH} {xs : List PV} (e : lstOf v h = some xs) : srcEnum [v] h = .ok ⟨enumL xs, ckOf v h⟩ h := by
  cases v with
  | tup xs => cases e
  | _ => unfold srcEnum; simp only [e]
theorem seqOf_lstOf {v : PV} {h : VH} {xs : List PV} (e : lstOf v h = some xs) : seqOf v h = some xs := by
  cases v with
  | tup xs => cases e
  | _ => exact e
theorem ixN_at {v : PV} {h : VH} {L : List Int} {i : Nat} (e : lstOf v h = some (L.map PV.int)) (hi : i < L.length) : ixP v (.int (i : Int)) h = .ok (.int (L.getD i 0)) h :=
  ixP_seq (seqOf_lstOf e) (by rw [atI_nat]; simp [hi])
theorem tupleP_at {v : PV} {h : VH} {xs : List PV} (e : lstOf v h = some xs) : tupleP v h = .ok (.tup xs) h := by
  cases v with
  | tup xs => cases e
  | _ => unfold tupleP; simp only [e]
theorem at_end {α : Type} (H : List α) (a : α) : (H ++ [a])[H.length]? = some a := by simp
theorem set_end {α : Type} (H : List α) (a b : α) : (H ++ [a]).set H.length b = H ++ [b] := by simp
theorem append_end {H : VH} {xs : List PV} {y : PV} (z : xs.length < 16777216) : appendP (.ref H.length) [y] (H ++ [.lst xs]) = .ok .non (H ++ [.lst (xs ++ [y])]) := by
  rw [appendP_ok (at_end _ _) z, set_end]
theorem lstMt_end {H : VH} {xs : List PV} {ms : AM} {σ : LS} {f : PV → List PV → VH → Res PV} : lstMt (.ref H.length) ms σ (H ++ [.lst xs]) f = (ms σ (H ++ [.lst xs])).bind fun ys h1 => f (.ref H.length) ys h1 :=
  lstMt_ok (lstOf_ref (at_end _ _))
theorem listP_tupF (xs : List PV) (h : VH) : listP false (.tup xs) h = .ok (.lst xs) h := (rfl)
theorem listP_lstF (xs : List PV) (h : VH) : listP false (.lst xs) h = .ok (.lst xs) h := (rfl)
theorem listP_tupT (xs : List PV) (h : VH) : listP true (.tup xs) h = .ok (.ref h.length) (h ++ [.lst xs]) := (rfl)
theorem listP_lstT (xs : List PV) (h : VH) : listP true (.lst xs) h = .ok (.ref h.length) (h ++ [.lst xs]) := (rfl)
theorem slP_tupL (xs : List PV) (lo hi : Option Int) (h : VH) : slP false (.tup xs) lo hi h = .ok (.tup (cutP xs lo hi)) h := (rfl)
theorem pmV : type_of% (And.intro @srcEnum_tup (And.intro @listP_tupF (And.intro @listP_lstF (And.intro @listP_tupT (And.intro @listP_lstT @slP_tupL))))) := ⟨@srcEnum_tup, @listP_tupF, @listP_lstF, @listP_tupT, @listP_lstT, @slP_tupL⟩
end Pm
namespace Pm
open PySem PySem.Spec L2 PyProof.Rows
/-! ### texts that repr makes -/
def okS (s : Str) : Prop := ∀ c ∈ s.cps.toList, c < 0x110000
theorem okS_iff {s : Str} : PyData.strOk s = true ↔ okS s := by
  unfold PyData.strOk okS
  rw [← Array.all_toList, List.all_eq_true]
  simp
theorem okS_of (x : String) : okS (Str.ofString x) := by
  unfold okS
  rw [Str.ofString_eq_toList]
  intro c hc
  simp only [List.mem_map] at hc
  obtain ⟨ch, _, rfl⟩ := hc
  have := ch.valid
  rcases this with h | h
  · show ch.val.toNat < _; omega
  · show ch.val.toNat < _; omega
theorem okS_app {x y : Str} (a : okS x) (b : okS y) : okS (x ++ y) := by
  unfold okS at *
  show ∀ c ∈ (x.cps ++ y.cps).toList, c < _
  intro c hc
  rw [Array.toList_append] at hc
  rcases List.mem_append.mp hc with q | q
  · exact a c q
  · exact b c q
theorem okS_join {sep : Str} (a : okS sep) : ∀ {xs : List Str}, (∀ x ∈ xs, okS x) → okS (Str.join sep xs)
  | [], _ => by intro c hc; cases hc
  | [x], h => h x (by simp)
  | x :: y :: r, h => by
    show okS (x ++ sep ++ Str.join sep (y :: r))
    exact okS_app (okS_app (h x (by simp)) a) (okS_join a fun z hz => h z (List.mem_cons_of_mem _ hz))
theorem okS_from : ∀ {xs : List Str} (k : Nat) {acc : Str}, okS acc → (∀ x ∈ xs, okS x) → okS (textFrom k acc xs)
  | [], _, _, a, _ => a
  | x :: xs, k, acc, a, h => okS_from (k + 1) (okS_app (okS_app a (okS_of _)) (h x (by simp))) fun z hz => h z (List.mem_cons_of_mem _ hz)
theorem digit_lt (b n : Nat) (hb : b ≤ 16) : ∀ c ∈ Nat.toDigits b n, c.toNat < 0x110000 := fun c _ => by
  have := c.valid
  rcases this with h | h
  · show c.val.toNat < _; omega
  · show c.val.toNat < _; omega
theorem okS_char {q c : Nat} (hq : q < 0x110000) (hc : c < 0x110000) : ∀ d ∈ Builtin.Str.reprChar q c, d < 0x110000 := by
  have hex : ∀ w, ∀ d ∈ List.replicate (w - ((Nat.toDigits 16 c).map Char.toNat).length) 48 ++ (Nat.toDigits 16 c).map Char.toNat, d < 0x110000 := fun w d hd => by
    rcases List.mem_append.mp hd with q | q
    · rw [List.eq_of_mem_replicate q]; omega
    · obtain ⟨ch, h1, rfl⟩ := List.mem_map.mp q
      exact digit_lt 16 c (by omega) ch h1
  have two : ∀ (x y : Nat) (l : List Nat), x < 0x110000 → y < 0x110000 → (∀ d ∈ l, d < 0x110000) → ∀ d ∈ [x, y] ++ l, d < 0x110000 := fun x y l a b h d hd => by
    simp only [List.cons_append, List.nil_append, List.mem_cons] at hd
    rcases hd with rfl | rfl | hd
    · exact a
    · exact b
    · exact h d hd
  unfold Builtin.Str.reprChar
  dsimp only
  split
  · simpa using hc
  split
  · simp
  split
  · simp
  split
  · simp
  split
  · simpa using hc
  split
  · exact two _ _ _ (by omega) (by omega) (hex 2)
  split
  · exact two _ _ _ (by omega) (by omega) (hex 4)
  · exact two _ _ _ (by omega) (by omega) (hex 8)
theorem okS_repr {x : Str} (h : okS x) : okS (reprText x) := by
  have hq : reprQuote x < 0x110000 := by unfold reprQuote; split <;> omega
  have : ∀ (l : List Nat) (acc : Array Nat), (∀ c ∈ l, c < 0x110000) → (∀ c ∈ acc.toList, c < 0x110000) → ∀ c ∈ (l.foldl (fun out c => out ++ (Builtin.Str.reprChar (reprQuote x) c).toArray) acc).toList, c < 0x110000 := by
    intro l
    induction l with
    | nil => intro acc _ h; exact h
    | cons a l ih =>
      intro acc h1 h2
      refine ih _ (fun c hc => h1 c (List.mem_cons_of_mem _ hc)) fun c hc => ?_
      rw [Array.toList_append] at hc
      rcases List.mem_append.mp hc with q | q
      · exact h2 c q
      · exact okS_char hq (h1 a List.mem_cons_self) c q
  intro c hc
  unfold reprText at hc
  rw [Array.toList_push, ← Array.foldl_toList] at hc
  rcases List.mem_append.mp hc with q | q
  · exact this x.cps.toList #[reprQuote x] h (fun c hc => by simp at hc; rw [hc]; exact hq) c q
  · rw [List.mem_singleton.mp q]; exact hq
mutual
theorem okS_shown : ∀ d : PyData, d.canLay0 = true → d.showable = true → okS d.shown
  | .none, _, _ => okS_of _
  | .bool true, _, _ => okS_of _
  | .bool false, _, _ => okS_of _
  | .int i, _, _ => okS_of _
  | .str x, h, _ => okS_repr (okS_iff.mp (by simpa [PyData.canLay0] using h))
  | .list xs, h, s => okS_app (okS_from 0 (okS_of _) (okS_all xs (by simpa [PyData.canLay0] using h) (by simpa [PyData.showable] using s))) (okS_of _)
  | .tuple xs, h, s => okS_app (okS_app (okS_of _) (okS_join (okS_of _) (okS_all xs (by simpa [PyData.canLay0] using h) (by simpa [PyData.showable] using s)))) (okS_of _)
  | .dict _, h, _ => by simp [PyData.canLay0] at h
theorem okS_all : ∀ ds : List PyData, PyData.canLayAll0 ds = true → PyData.showableAll ds = true → ∀ x ∈ PyData.shownAll ds, okS x
  | [], _, _ => by intro x hx; cases hx
  | d :: ds, h, s => by
    simp only [PyData.canLayAll0, Bool.and_eq_true] at h
    simp only [PyData.showableAll, Bool.and_eq_true] at s
    intro x hx
    rcases List.mem_cons.mp (show x ∈ d.shown :: PyData.shownAll ds from hx) with rfl | q
    · exact okS_shown d h.1 s.1
    · exact okS_all ds h.2 s.2 x q
end
theorem Rp.ok {n w : Nat} {v : PV} {d : PyData} (r : Rp n w v d) : PyData.strOk d.shown = true := okS_iff.mpr (okS_shown d r.lay r.sh)
theorem Pv.rep {w : Nat} {v : PV} (p : Pv 12 w v) (hw : w ≤ 16777216) : ∃ s, PyData.strOk s = true ∧ ∀ h, reprP v h = .ok (.str s) h := by
  obtain ⟨d, r⟩ := p.sh; exact ⟨_, r.ok, r.repr hw⟩
theorem strOk_of (x : String) : PyData.strOk (Str.ofString x) = true := okS_iff.mpr (okS_of x)
/-! ### data compared -/
theorem ne_lst {xs ys : List PV} {h : VH} : neP (.lst xs) (.lst ys) h = eqD true (.lst xs) (.lst ys) h := (rfl)
theorem eq_lst {xs ys : List PV} {h : VH} : eqP (.lst xs) (.lst ys) h = eqD false (.lst xs) (.lst ys) h := (rfl)
theorem ne_tup {xs ys : List PV} {h : VH} : neP (.tup xs) (.tup ys) h = eqD true (.tup xs) (.tup ys) h := (rfl)
theorem eq_tup {xs ys : List PV} {h : VH} : eqP (.tup xs) (.tup ys) h = eqD false (.tup xs) (.tup ys) h := (rfl)
theorem eqD_same {neg : Bool} {v : PV} {h : VH} {d : PyData} (e : dat h v = some d) (l : d.canLay0 = true) : eqD neg v v h = .ok (.bl (!neg)) h := by
  rw [eqD_ok e e l l, SeqAt.eqv_refl d l]
  cases neg <;> rfl
/-- what a refusal tells is what is due -/
theorem told_ne {x s : Str} (hx : PyData.strOk x = true) (hs : PyData.strOk s = true) (h : VH) : neP (.lst [.tup [.str x, .str s]]) (.lst [.tup [.str x, .str s]]) h = .ok (.bl false) h := by
  rw [ne_lst]
  have e : dat h (.lst [.tup [.str x, .str s]]) = some (.list [.tuple [.str x, .str s]]) := by simp [allD]
  exact eqD_same e (by simp [PyData.canLay0, PyData.canLayAll0, hx, hs])
/-! ### classes asked -/
theorem kit_ref {K : PySem.W.Frag} {D C : Addr} {b : Bool} (h2 : PySem.W.isClsIn K C = true) (h3 : PySem.W.typeIn K (.ref C) = some (.type "type")) (h4 : PySem.W.subIn K (.ref D) (.ref C) = some b) (hs : PySem.W.subIn K (.ref C) (.ref C) = some true) : PySem.W.kitOne K (.ref D) (.ref C) = some b := by
  unfold PySem.W.kitOne
  by_cases q : ((Value.ref D == Value.ref C) = true)
  · rw [if_pos q]
    have e : D = C := Value.ref.inj (beq_iff_eq.mp q)
    subst e
    exact hs.symm.trans h4
  · rw [if_neg q]
    unfold PySem.W.kitCls
    have h2' : (PySem.W.clsIn K C).isSome = true := h2
    have e2 : ((PySem.W.clsIn K C).isSome && PySem.W.typeIn K (.ref C) == some (.type "type")) = true := by rw [h2', h3] <;> rfl
    dsimp only
    rw [if_pos e2]; exact h4
theorem kit_ty {K : PySem.W.Frag} {D : Addr} {T : String} {b : Bool} (hm : PySem.W.kitMeta T = true) (h4 : PySem.W.subIn K (.ref D) (.type T) = some b) : PySem.W.kitOne K (.ref D) (.type T) = some b := by
  unfold PySem.W.kitOne
  rw [if_neg (by intro z; cases beq_iff_eq.mp z)]
  unfold PySem.W.kitCls
  dsimp only
  rw [if_pos hm]; exact h4
end Pm
namespace Pm
open PySem PySem.Spec L2 PyProof.Rows
/-! ### two or three names at once -/
section
variable {c : Ck} {X : Cx} {W : WX} {pos : Pos} {e : Expr} {es : List Expr} {m : EM} {ms : AM}
/-- a, b = x, y with plain local names: stored from the right -/
def sPar (i j : Nat) (ms : AM) : SM := fun σ h => (ms σ h).then σ fun vs h1 => match vs with
  | [v, w] => .nx ((σ.set i (some v)).set j (some w)) h1
  | _ => .bad
@[simp] theorem sPar_def (i j : Nat) (σ : LS) (h : VH) : sPar i j ms σ h = (ms σ h).then σ fun vs h1 => match vs with
  | [v, w] => .nx ((σ.set i (some v)).set j (some w)) h1
  | _ => .bad := (rfl)
theorem S1.par {i j : Nat} {x y : Str} {a b : Expr} {px py pt : Pos} {kt k2 pt2} (hc : X.calm = true) (hN : X.N.Nodup) (hi : X.N[i]? = some x) (hj : X.N[j]? = some y) (hij : i ≠ j)
    (hx : X.env.scope.names.lookup x = some .local) (hy : X.env.scope.names.lookup y = some .local) (ha : SA c X W [a, b] ms)
    (hw : swappedStores [.Tuple [.Name x px, .Name y py] kt pt] (.Tuple [a, b] k2 pt2) X.env = pure (some [x, y]))
    (hs : swapsWithSole [.Tuple [.Name x px, .Name y py] kt pt] (.Tuple [a, b] k2 pt2) pos.line X.env = pure false := by rfl) :
    S1 c X W (.Assign [.Tuple [.Name x px, .Name y py] kt pt] (.Tuple [a, b] k2 pt2) pos) (sPar i j ms) := by
  obtain ⟨la, t, pa, s⟩ := ha
  refine ⟨_, ps_par hc hN hi hj hij hx hy pa hw hs, fun g σ h τ H D rs rh p => ?_⟩
  refine s g σ h τ H _ rs rh ((PostS.then rs p).imp (fun us H1 ⟨g1, xs, h1, m1, p1⟩ => ?_) fun _ _ _ z => z)
  split at p1
  · rename_i v w
    obtain ⟨u, u', rfl, rv, rw'⟩ := m1.rep.two
    refine ⟨u, u', rfl, ?_⟩
    have rs1 := rs.mono m1.le m1.len
    exact p1 g1 _ H1 (Gh.le.refl _ _) (Nat.le_refl _) m1.rel ((rs1.set i rv).set j rw')
  · exact p1.elim
/-- three names at once -/
def sPar3 (i j l : Nat) (ms : AM) : SM := fun σ h => (ms σ h).then σ fun vs h1 => match vs with
  | [u, v, w] => .nx (((σ.set i (some u)).set j (some v)).set l (some w)) h1
  | _ => .bad
theorem Reps.three {K : Kc} {g : Gh} {n : Nat} {x y z : PV} {us : List V} (r : Reps K g n [x, y, z] us) : ∃ u v w, us = [u, v, w] ∧ Rep K g n x u ∧ Rep K g n y v ∧ Rep K g n z w := by
  simp only [Reps] at r
  obtain ⟨u, us', rfl, a, v, us2, rfl, b, w, us3, rfl, d, e⟩ := r
  subst e
  exact ⟨u, v, w, rfl, a, b, d⟩
theorem S1.par3 {i j l : Nat} {x y z : Str} {a b d : Expr} {px py pz pt : Pos} {kt k2 pt2} (hc : X.calm = true) (hN : X.N.Nodup) (hi : X.N[i]? = some x) (hj : X.N[j]? = some y) (hl : X.N[l]? = some z) (hij : i ≠ j) (hil : i ≠ l) (hjl : j ≠ l)
    (hx : X.env.scope.names.lookup x = some .local) (hy : X.env.scope.names.lookup y = some .local) (hz : X.env.scope.names.lookup z = some .local) (ha : SA c X W [a, b, d] ms)
    (hw : swappedStores [.Tuple [.Name x px, .Name y py, .Name z pz] kt pt] (.Tuple [a, b, d] k2 pt2) X.env = pure (some [x, y, z]))
    (hs : swapsWithSole [.Tuple [.Name x px, .Name y py, .Name z pz] kt pt] (.Tuple [a, b, d] k2 pt2) pos.line X.env = pure false := by rfl) :
    S1 c X W (.Assign [.Tuple [.Name x px, .Name y py, .Name z pz] kt pt] (.Tuple [a, b, d] k2 pt2) pos) (sPar3 i j l ms) := by
  obtain ⟨la, t, pa, s⟩ := ha
  refine ⟨_, ps_par3 hc hN hi hj hl hij hil hjl hx hy hz pa hw hs, fun g σ h τ H D rs rh p => ?_⟩
  refine s g σ h τ H _ rs rh ((PostS.then rs p).imp (fun us H1 ⟨g1, xs, h1, m1, p1⟩ => ?_) fun _ _ _ z => z)
  split at p1
  · rename_i a1 a2 a3
    obtain ⟨u, u', u'', rfl, rv, rw', rx⟩ := m1.rep.three
    refine ⟨u, u', u'', rfl, ?_⟩
    have rs1 := rs.mono m1.le m1.len
    exact p1 g1 _ H1 (Gh.le.refl _ _) (Nat.le_refl _) m1.rel (((rs1.set i rv).set j rw').set l rx)
  · exact p1.elim
/-! ### attributes stored -/
def putFP (f : Str) (v : PV) : List (Str × PV) → List (Str × PV)
  | [] => [(f, v)]
  | (g, x) :: r => if g = f then (g, v) :: r else (g, x) :: putFP f v r
theorem putFP_rep {K : Kc} {g : Gh} {n : Nat} {f : Str} {v : PV} {u : V} (rv : Rep K g n v u) : ∀ {fs : List (Str × PV)} {gs : List (Str × V)}, RepF K g n fs gs → RepF K g n (putFP f v fs) (putF f u gs)
  | [], _, h => by simp only [RepF] at h; subst h; exact RepF.cons rv RepF.nil
  | (k, x) :: fs, _, h => by
    simp only [RepF] at h
    obtain ⟨w, r, rfl, a, b⟩ := h
    by_cases q : k = f
    · simp only [putFP, putF, q, if_true]; exact RepF.cons rv b
    · simp only [putFP, putF, q, if_false]; exact RepF.cons a (putFP_rep rv b)
/-- an instance in a cell -/
def celI (x : PV) (h : VH) : Option (Nat × Nat × List (Str × PV)) := match x with
  | .ref i => match h[i]? with
    | some (.ins C fs) => some (i, C, fs)
    | _ => none
  | _ => none
theorem celI_ref {i C : Nat} {fs : List (Str × PV)} {h : VH} (e : h[i]? = some (.ins C fs)) : celI (.ref i) h = some (i, C, fs) := by simp [celI, e]
theorem celI_run {K : Kc} {g : Gh} {h : VH} {H : Hp} {x : PV} {u : V} {i C : Nat} {fs : List (Str × PV)} (rx : Rep K g h.length x u) (rh : RelH K g h H) (e : celI x h = some (i, C, fs)) :
    x = .ref i ∧ u = .ref (g.ρ i) ∧ h[i]? = some (.ins C fs) ∧ ∃ dx gs, H (g.ρ i) = some (.ins (K.cls C) dx gs) ∧ RepF K g h.length fs gs := by
  cases x with
  | ref j =>
    simp only [Rep] at rx
    have e : (match h[j]? with
      | some (PO.ins C fs) => some (j, C, fs)
      | _ => none) = some (i, C, fs) := e
    split at e
    · rename_i D fs' e1
      obtain ⟨u', hu', ru⟩ := rh.cell j _ e1 (by intro z; cases z)
      obtain ⟨dx, gs, rfl, r⟩ := ru
      have rx2 := rx.2
      cases e
      exact ⟨rfl, rx2, e1, dx, gs, hu', r⟩
    · cases e
  | _ => cases e
def sFldM (C : Nat) (f : Str) (mo mv : EM) : SM := fun σ h => (mv σ h).then σ fun y h1 => (mo σ h1).then σ fun x h2 => match celI x h2 with
  | some (i, D, fs) => if D = C ∧ fs.length < 1000 then .nx σ (h2.set i (.ins C (putFP f y fs))) else .bad
  | none => .bad
theorem sFldM_def (C : Nat) (f : Str) (mo mv : EM) (σ : LS) (h : VH) : sFldM C f mo mv σ h = (mv σ h).then σ fun y h1 => (mo σ h1).then σ fun x h2 => match celI x h2 with
  | some (i, D, fs) => if D = C ∧ fs.length < 1000 then .nx σ (h2.set i (.ins C (putFP f y fs))) else .bad
  | none => .bad := (rfl)
theorem S1.fld {Cn : Nat} {fl : Str} {o value : Expr} {mo mv : EM} {pos' : Pos} (ho : SE c X W o mo) (hv : SE c X W value mv) (cl : Cls X.K (c Cn)) (na : NoAttr X.K (c Cn) fl) (hs : swapsWith value (some (.Attribute o fl pos')) pos.line X.env = pure false := by rfl) :
    S1 c X W (.Assign [.Attribute o fl pos'] value pos) (sFldM Cn fl mo mv) := by
  obtain ⟨t, p, s⟩ := ho
  obtain ⟨tv, pv, sv⟩ := hv
  refine ⟨_, ps_fld p pv hs, fun g σ h τ H D rs rh q => ?_⟩
  refine sv g σ h τ H _ rs rh ((PostS.then rs q).imp (fun u H1 ⟨g1, y, h1, m1, q1⟩ => ?_) fun _ _ _ z => z)
  have rs1 := rs.mono m1.le m1.len
  refine s g1 σ h1 τ H1 _ rs1 m1.rel ((PostS.then rs1 q1).imp (fun v H2 ⟨g2, x, h2, m2, q2⟩ => ?_) fun _ _ _ z => z)
  split at q2
  · rename_i i D' fs e0
    split at q2
    · rename_i z
      obtain ⟨rfl, hl⟩ := z
      obtain ⟨rfl, rfl, e2, dx, gs, hu, r⟩ := celI_run m2.rep m2.rel e0
      refine ⟨_, _, dx, gs, rfl, hu, cl, na, by rw [r.length]; exact hl, ?_⟩
      have rs2 := rs1.mono m2.le m2.len
      have ry := m1.rep.mono m2.le m2.len
      refine q2 g2 τ _ (Gh.le.refl _ _) (by simp) (m2.rel.setc e2 (by intro z; cases z) ⟨dx, _, rfl, putFP_rep ry r⟩) ?_
      rw [List.length_set]; exact rs2
    · exact q2.elim
  · exact q2.elim
/-- e.f += value, of numbers -/
def sFldAugM (C : Nat) (f : Str) (mo mv : EM) : SM := fun σ h => (mo σ h).then σ fun x h1 => match celI x h1 with
  | some (i, D, fs) => if D = C then (match fs.lookup f with
    | some v => (mv σ h1).then σ fun y h2 => match celI (.ref i) h2 with
      | some (_, D2, fs2) => if D2 = C ∧ fs2.length < 1000 then (match v, y with
        | .int a, .int b => .nx σ (h2.set i (.ins C (putFP f (.int (a + b)) fs2)))
        | _, _ => .bad) else .bad
      | none => .bad
    | none => .bad) else .bad
  | none => .bad
theorem S1.fldAug {Cn : Nat} {fl : Str} {o value : Expr} {mo mv : EM} {tpos : Pos} (ho : SE c X W o mo) (hv : SE c X W value mv) (cl : Cls X.K (c Cn)) (na : NoAttr X.K (c Cn) fl) : S1 c X W (.AugAssign (.Attribute o fl tpos) .Add value pos) (sFldAugM Cn fl mo mv) := by
  obtain ⟨t, p, s⟩ := ho
  obtain ⟨tv, pv, sv⟩ := hv
  refine ⟨_, ps_fldaug p pv in_add, fun g σ h τ H D rs rh q => ?_⟩
  refine s g σ h τ H _ rs rh ((PostS.then rs q).imp (fun u H1 ⟨g1, x, h1, m1, q1⟩ => ?_) fun _ _ _ z => z)
  have rs1 := rs.mono m1.le m1.len
  split at q1
  · rename_i i D' fs e0
    split at q1
    · rename_i z
      subst z
      split at q1
      · rename_i v ev
        obtain ⟨rfl, rfl, e2, dx, gs, hu, r⟩ := celI_run m1.rep m1.rel e0
        obtain ⟨w, e4, r4⟩ := (RepF.lookup (f := fl) r).1 v ev
        refine ⟨_, _, dx, gs, w, rfl, hu, cl, na, e4, ?_⟩
        refine sv g1 σ h1 τ H1 _ rs1 m1.rel ((PostS.then rs1 q1).imp (fun u2 H2 ⟨g2, y, h2, m2, q2⟩ => ?_) fun _ _ _ z => z)
        split at q2
        · rename_i i2 D2 fs2 e5
          split at q2
          · rename_i z
            obtain ⟨rfl, hl⟩ := z
            have rw4 := r4.mono m2.le m2.len
            have ry := m2.rep
            have rx : Rep (kx c X) g2 h2.length (.ref i) (.ref (g1.ρ i)) := m1.rep.mono m2.le m2.len
            obtain ⟨ei, eu, e6, dx2, gs2, hu2, r2⟩ := celI_run rx m2.rel e5
            cases ei
            have hi1 := m1.rep
            simp only [Rep] at hi1
            have eu' : g2.ρ i = g1.ρ i := m2.le.rho i hi1.1
            split at q2
            · rename_i a b _
              simp only [Rep] at rw4 ry
              refine ⟨a, b, rw4, ry, dx2, gs2, by rw [← eu']; exact hu2, by rw [r2.length]; exact hl, ?_⟩
              rw [← eu']
              have rs2 := rs1.mono m2.le m2.len
              refine q2 g2 τ _ (Gh.le.refl _ _) (by simp) (m2.rel.setc e6 (by intro z; cases z) ⟨dx2, _, rfl, putFP_rep repI r2⟩) ?_
              rw [List.length_set]; exact rs2
            · exact q2.elim
          · exact q2.elim
        · exact q2.elim
      · exact q1.elim
    · exact q1.elim
  · exact q1.elim
/-- in, not in a tuple of numbers of the module -/
def eInC (neg : Bool) (m : EM) (ns : List Int) : EM := fun σ h => (m σ h).bind fun x h1 => match flD x with
  | some d => .ok (.bl (if neg then !((ns.map PyData.int).any fun z => PyData.eqv z d) else (ns.map PyData.int).any fun z => PyData.eqv z d)) h1
  | none => .bad
theorem eInC_def (neg : Bool) (m : EM) (ns : List Int) (σ : LS) (h : VH) : eInC neg m ns σ h = (m σ h).bind fun x h1 => match flD x with
  | some d => .ok (.bl (if neg then !((ns.map PyData.int).any fun z => PyData.eqv z d) else (ns.map PyData.int).any fun z => PyData.eqv z d)) h1
  | none => .bad := (rfl)
/-- a tuple of numbers that the module holds -/
def KTup (K : PySem.W.Frag) (u : Value) (ns : List Int) : Prop := ∃ a, u = .ref a ∧ ∀ H, SqT K H a (ns.map V.int)
theorem ktup_mk {K : PySem.W.Frag} {a : Addr} {d : Option Addr} {its : Array Value} {n : Nat} {sl : Array (Option Value)} {ns : List Int} (l : K.lookup a = some ⟨.type "tuple", d, .seq its n, sl⟩) (hs : its.size ≤ sizeLine) (hv : Vals (ns.map V.int) its.toList) : KTup K (.ref a) ns :=
  ⟨a, rfl, fun H => .inr ⟨_, its, n, l, rfl, rfl, hs, hv⟩⟩
theorem inC_run {neg : Bool} {ns : List Int} {x : PV} {u : V} {g : Gh} {h : VH} {H : Hp} {Q : VK} {E : XK} {a : Addr} (rx : Rep (kx c X) g h.length x u) (rh : RelH (kx c X) g h H) (hs : ∀ H, SqT X.K H a (ns.map V.int))
    (p : Post (kx c X) (Rep (kx c X)) g h.length Q E (match flD x with
  | some d => .ok (.bl (if neg then !((ns.map PyData.int).any fun z => PyData.eqv z d) else (ns.map PyData.int).any fun z => PyData.eqv z d)) h
  | none => .bad)) : rIn X.K neg u (.ref a) H Q := by
  split at p
  · rename_i d e
    obtain ⟨f1, f2⟩ := flDs_run (K := kx c X) (g := g) (n := h.length) rx e (Reps.ints ns) (flDs_ints ns)
    exact ⟨a, _, rfl, .inr (hs H), (flD_run rx e).1, f1, by rw [f2]; exact p.go rh repB⟩
  · exact p.elim
theorem SE.inC (neg : Bool) {op : CmpOp} {x : Str} {a : Expr} {ma : EM} {p1 : Pos} {ns : List Int} (ho : OpR X (compareOp op) (rIn X.K neg)) (ha : SE c X W a ma) (hg : Gl X x) (hk : ∃ u, X.mg x = some u ∧ KTup X.K u ns) (hb : behindInMarks op (.Name x p1) = false)
    (hd : (x == ("__debug__" : Str)) = false := by decide) : SE c X W (.Compare a [op] [.Name x p1] pos) (eInC neg ma ns) := by
  obtain ⟨t, pa, s⟩ := ha
  obtain ⟨_, hm, b, rfl, hs⟩ := hk
  refine ⟨_, pe_cmpR ho pa (pe_glob hg hm (v := .ref b) rfl hd) hb, fun g σ h τ H Q rs rh q => ?_⟩
  exact s g σ h τ H _ rs rh ((Post.bind q).imp (fun u H1 ⟨g1, x, h1, m1, q1⟩ => inC_run m1.rep m1.rel hs q1) fun _ _ _ z => z)
theorem ST.inC (neg : Bool) {op : CmpOp} {x : Str} {a : Expr} {ma : EM} {p1 : Pos} {ns : List Int} (ho : OpR X (compareOp op) (rIn X.K neg)) (ha : SE c X W a ma) (hg : Gl X x) (hk : ∃ u, X.mg x = some u ∧ KTup X.K u ns) (hb : behindInMarks op (.Name x p1) = false)
    (hd : (x == ("__debug__" : Str)) = false := by decide) : ST c X W (.Compare a [op] [.Name x p1] pos) (tVal (eInC neg ma ns)) := by
  obtain ⟨t, pa, s⟩ := ha
  obtain ⟨_, hm, b, rfl, hs⟩ := hk
  refine ⟨_, pt_cmpR ho pa (pe_glob hg hm (v := .ref b) rfl hd) hb, fun g σ h τ H Q rs rh q => ?_⟩
  have q' := (Post.bind (R := Rep (kx c X)) q).imp (Q2 := fun u H' => ∃ k, u = .bl k ∧ Q k H') (E2 := at_ W τ) (fun u H1 ⟨g1, x, h1, m1, p1⟩ => asB_run m1.rep m1.rel p1) fun _ _ _ z => z
  exact s g σ h τ H _ rs rh ((Post.bind q').imp (fun u H1 ⟨g1, x, h1, m1, q1⟩ => inC_run m1.rep m1.rel hs q1) fun _ _ _ z => z)
end
/-- a method's facts -/
structure Fm (K : PySem.W.Frag) (x qual : Str) (st : Stmt) (ps : List Str) (f : Addr) (fd : FuncData) : Prop where
  F : Fun K x qual st f fd
  b : Binds K fd ps []
end Pm
namespace Pm
open PySem PySem.Spec L2 PyProof.Rows
section
variable {c : Ck} {X : Cx} {W : WX} {pos : Pos} {o : Expr} {f : Str} {k : Nat} {g : Addr} {fd : FuncData} {ps : List Str} {m : List PV → VH → Res PV} {mo : EM}
/-! ### properties -/
def propP (C : Nat) (m : List PV → VH → Res PV) (x : PV) (h : VH) : Res PV := match insAt x h with
  | some (D, _) => if D = C then (match m [x] h with
    | .exc _ _ => .bad
    | r => r) else .bad
  | none => .bad
def eProp (C : Nat) (m : List PV → VH → Res PV) (mo : EM) : EM := fun σ h => (mo σ h).bind (propP C m)
theorem eProp_def (C : Nat) (m : List PV → VH → Res PV) (mo : EM) (σ : LS) (h : VH) : eProp C m mo σ h = (mo σ h).bind (propP C m) := (rfl)
theorem propP_ok {C : Nat} {m : List PV → VH → Res PV} {x v : PV} {h h' : VH} {fs : List (Str × PV)} (e : insAt x h = some (C, fs)) (em : m [x] h = .ok v h') : propP C m x h = .ok v h' := by
  unfold propP; rw [e]; simp only [if_true, em]
theorem getpropG {C a dx p : Addr} {fs : List (Str × V)} {sp : Sp} {E : XK} {b : Bool} {pins : List (Addr × Obj)} {τ : L2.St} {H : Hp} {s : Shared} {Q : VK} (I : Inv X pins τ H s) (ea : H a = some (.ins C dx fs)) (cl : Cls X.K C) (hp : PropOf X.K C f p g)
    (F : FnG X.prog X.w X.K X.mg X.base k g fd ps sp) (room : Room (k + 1) X.A) (gd : X.A.guards = some []) (bi : Binds X.K fd ps []) (px : ∀ cls d H', ¬ E cls d H') (h : sp [.ref a] H Q E) :
    wpAny (model X.prog X.w) X.A (getAttr (.ref a) f b) (EP X pins τ Q) X.xe s := by
  obtain ⟨mA, O, _, _, _, _⟩ := ins_get I.hok ea
  obtain ⟨od, J, _⟩ := O.look
  obtain ⟨rest, hrec⟩ := hp.rec_
  have I1 := I.tok (s.toks + 1)
  have hc : (PySem.W.clsIn X.K C).isSome = true := by
    obtain ⟨cd, hc, _⟩ := PySem.W.any_some cl.hd
    rw [hc]
    rfl
  have ln : ([Value.ref a] : List Value).length = ps.length := F.len _ _ _ _ h
  have bd := bi { s with toks := s.toks + 1 } [Value.ref a] I1.kIn (by rw [List.append_nil]; exact ln)
  rw [List.append_nil] at bd
  refine PySem.W.get_bind I.kIn J (PySem.W.plainGet_of (cl.get f)).1 (PySem.W.findObj_data hc hp.at_ hp.get hp.tak) (PySem.W.plainGet_of (cl.get f)).2 (wpAny_call (PySem.W.prop_get (s := { s with toks := s.toks + 1 }) I.kIn hrec ?_))
  refine codeAny_mono (F.run X.A.in1 X.stack { s with toks := s.toks + 1 } H ⟨[.ref a], []⟩ [.ref a] [.ref a] Q E room.in1 gd I1.env0.in1 bd (.cons rfl .nil) h) fun res s' hq => ?_
  cases res with
  | error er =>
    obtain ⟨_, _, _, _, _, _, _, _, _, _, _, _, e⟩ := hq
    exact (px _ _ _ e).elim
  | ok fl =>
    cases fl with
    | ret u =>
      obtain ⟨v, H', I3, rv, q3⟩ := I1.after hq
      show wpAny _ _ (handedOut u) _ _ _
      rw [PySem.W.handedOut_of (handed_of rv)]
      exact wpAny_pure ⟨v, H', I3, rv, q3⟩
    | next => exact hq.elim
    | brk => exact hq.elim
    | cont => exact hq.elim
def tPropS (C : Addr) (sp : Sp) (ta : TE) : TE := fun τ H Q => ta τ H fun x H1 => ∃ a dx fs, x = .ref a ∧ H1 a = some (.ins C dx fs) ∧ sp [.ref a] H1 Q (fun _ _ _ => False)
theorem pe_propG {C p : Addr} {sp : Sp} {ta : TE} (he : PE X o ta) (cl : Cls X.K C) (hp : PropOf X.K C f p g) (F : FnG X.prog X.w X.K X.mg X.base k g fd ps sp) (room : Room (k + 1) X.A) (gd : X.A.guards = some []) (bi : Binds X.K fd ps [])
    (hab : attributeBase o f X.env (eval o X.env) = eval o X.env) : PE X (.Attribute o f pos) (tPropS C sp ta) := by
  refine ⟨fun pins s τ H Q I h => ?_⟩
  refine attr_of hab (thn (he.run pins s τ H _ I h) fun u s1 ⟨x, H1, I1, rx, a, dx, fs, ex, ea, q⟩ => ?_)
  subst ex
  obtain rfl : u = Value.ref a := rx
  exact getpropG I1 ea cl hp F room gd bi (fun _ _ _ z => z) q
theorem SE.prop {Cn : Nat} (ho : SE c X W o mo) (cl : Cls X.K (c Cn)) (hp : ∃ p, PropOf X.K (c Cn) f p g) (F : FnS c X.prog X.w X.K X.mg X.base k g fd ps m) (hr : Room (k + 1) X.A) (hgd : X.A.guards = some []) (hb : Binds X.K fd ps []) (hn : 1 = ps.length := by rfl)
    (hab : attributeBase o f X.env (eval o X.env) = eval o X.env := by rfl) : SE c X W (.Attribute o f pos) (eProp Cn m mo) := by
  obtain ⟨to, po, so⟩ := ho
  obtain ⟨p, hp⟩ := hp
  refine ⟨_, pe_propG po cl hp F.ok hr hgd hb hab, fun g σ h τ H Q rs rh q => ?_⟩
  refine so g σ h τ H _ rs rh ((Post.bind q).imp (fun u H1 ⟨g1, x, h1, m1, q1⟩ => ?_) fun _ _ _ z => z)
  unfold propP at q1
  split at q1
  · rename_i D fs e1
    split at q1
    · rename_i e2
      subst e2
      obtain ⟨a, dx, gs, rfl, hu, r⟩ := insAt_run m1.rep m1.rel e1
      refine ⟨a, dx, gs, rfl, hu, g1, h1, [x], hn, Reps.cons m1.rep Reps.nil, m1.rel, ?_⟩
      split at q1
      · exact q1.elim
      · rename_i r hx
        generalize m [x] h1 = r at q1 hx
        cases r with
        | ok v h' => exact q1
        | exc e h' => exact (hx e h' rfl).elim
        | bad => exact q1.elim
    · exact q1.elim
  · exact q1.elim
/-! ### how often a number stands in a list -/
def countP (x : PV) (ys : List PV) (h : VH) : Res PV := match (lstOf x h).bind intsOf, ys with
  | some ns, [.int k] => .ok (.int (ns.count k : Nat)) h
  | _, _ => .bad
theorem countP_ok {x : PV} {ns : List Int} {k : Int} {h : VH} (e : (lstOf x h).bind intsOf = some ns) : countP x [.int k] h = .ok (.int (ns.count k : Nat)) h := by
  unfold countP; rw [e]
theorem countS : MtS c X (rCntI X.K) countP := fun g h H x ys u vs Q E rx ry rh p => by
  unfold countP at p
  split at p
  · rename_i ns k e
    obtain ⟨xs, e1, e2⟩ := Option.bind_eq_some_iff.mp e
    obtain ⟨a, us, rfl, s, r⟩ := lstOf_run rx rh e1
    rw [intsOf_eq e2] at r
    have ei := r.ints_eq
    subst ei
    obtain ⟨v, rfl, rv⟩ := ry.one
    cases rv
    exact ⟨a, ns, k, rfl, rfl, s, p.go rh repI⟩
  · exact p.elim
end
end Pm
namespace Pm
open PySem PySem.Spec L2 PyProof.Rows
/-! ### zip over any two iterators -/
open PySem.Sem (wp)
/-- an iterator at i: St k h says that it stands at place k of xs in the heap h -/
structure Itr (prog : Program) (w : World) (i l : Addr) (xs : Array Value) (St : Nat → Heap → Prop) : Prop where
  keep : ∀ {k : Nat} {h h' : Heap}, St k h → (∀ o, h.get? i = some o → h'.get? i = some o) → (∀ o, h.get? l = some o → h'.get? l = some o) → St k h'
  there : ∀ {k : Nat} {h : Heap}, St k h → ∃ o, h.get? i = some o
  item : ∀ {A : Around} {E : Value → Shared → Prop} {s : Shared} {k : Nat} {x : Value} {Q : Value → Shared → Prop}, St k s.heap → xs[k]? = some x → (∀ h', St (k + 1) h' → Heap.SameBut i s.heap h' → Q x { s with heap := h' }) →
    wpAny (model prog w) A (Builtin.SmallTypes.nextOf (.ref i)) Q E s
  done : ∀ {A : Around} {E : Value → Shared → Prop} {s : Shared} {k : Nat} {Q : Value → Shared → Prop}, A.handled = none → St k s.heap → xs[k]? = none → (∀ h' e, Heap.ExtBut i s.heap h' → (∃ o, h'.get? e = some o ∧ o.cls = .type "StopIteration") → E (.ref e) { s with heap := h' }) →
    wpAny (model prog w) A (Builtin.SmallTypes.nextOf (.ref i)) Q E s
theorem itr_tuple {prog : Program} {w : World} {i l : Addr} {xs : Array Value} (ne : l ≠ i) : Itr prog w i l xs (fun k h => h.IsTupleIter i l k ∧ h.IsTuple l xs) where
  keep := fun ⟨a, b⟩ ki kl => ⟨a.at ki, by obtain ⟨o, e, r⟩ := b; exact ⟨o, kl o e, r⟩⟩
  there := fun ⟨⟨o, e, _⟩, _⟩ => ⟨o, e⟩
  item := fun ⟨a, b⟩ hx hQ => RZ.nextOf_tuple_item a b hx fun h' c sb => hQ h' ⟨c, b.extBut sb.extBut ne⟩ sb
  done := fun hh ⟨a, b⟩ hx hE => RZ.nextOf_tuple_end hh a b hx hE
theorem itr_list {prog : Program} {w : World} {i l : Addr} {xs : Array Value} (ne : l ≠ i) : Itr prog w i l xs (fun k h => h.IsListIter i l k ∧ h.IsList l xs) where
  keep := fun ⟨a, b⟩ ki kl => ⟨a.at ki, by obtain ⟨o, e, r⟩ := b; exact ⟨o, kl o e, r⟩⟩
  there := fun ⟨⟨o, e, _⟩, _⟩ => ⟨o, e⟩
  item := fun ⟨a, b⟩ hx hQ => wpAny_nextOf_list_item a b hx fun h' c sb => hQ h' ⟨c, b.extBut sb.extBut ne⟩ sb
  done := fun hh ⟨a, b⟩ hx hE => wpAny_nextOf_list_end hh a b hx hE

section
variable {prog : Program} {w : World} {A : Around} {E : Value → Shared → Prop} {s : Shared}
/-- what a turn of zip touches -/
def Touch (z TO i1 i2 : Addr) (h h' : Heap) : Prop := ∀ c o, c ≠ z → c ≠ TO → c ≠ i1 → c ≠ i2 → h.get? c = some o → h'.get? c = some o
theorem touch_one {z TO i1 i2 c0 : Addr} {h h' : Heap} (hc : c0 = z ∨ c0 = TO ∨ c0 = i1 ∨ c0 = i2) (sb : Heap.ExtBut c0 h h') : Touch z TO i1 i2 h h' := fun c o c1 c2 c3 c4 e => sb c o (by
  rcases hc with q | q | q | q <;> rw [q] <;> assumption) e
theorem Touch.trans {z TO i1 i2 : Addr} {h h' h'' : Heap} (a : Touch z TO i1 i2 h h') (b : Touch z TO i1 i2 h' h'') : Touch z TO i1 i2 h h'' := fun c o c1 c2 c3 c4 e => b c o c1 c2 c3 c4 (a c o c1 c2 c3 c4 e)
variable {z TI TO i1 i2 l1 l2 : Addr} {k1 k2 : Nat} {xs ys : Array Value} {S1 S2 : Nat → Heap → Prop}
theorem Itr.over {i l c0 : Addr} {St : Nat → Heap → Prop} {zs : Array Value} (J : Itr prog w i l zs St) {k : Nat} {h h' : Heap} (st : St k h) (sb : Heap.ExtBut c0 h h') (a : i ≠ c0) (b : l ≠ c0) : St k h' :=
  J.keep st (fun o e => sb i o a e) fun o e => sb l o b e
theorem zipG_item {a b x y : Value} {Q : Value → Shared → Prop} (D : ZipApart z TI TO i1 i2 l1 l2) (J1 : Itr prog w i1 l1 xs S1) (J2 : Itr prog w i2 l2 ys S2)
    (hz : IsZip s.heap z TI TO .none) (hTI : IsPair s.heap TI (.ref i1) (.ref i2)) (hTO : IsPair s.heap TO a b) (h1 : S1 k1 s.heap) (h2 : S2 k2 s.heap) (hx : xs[k1]? = some x) (hy : ys[k2]? = some y)
    (hQ : ∀ h', IsZip h' z TI TO (rawInt s.heap.objs.size) → IsPair h' TO x y → S1 (k1 + 1) h' → S2 (k2 + 1) h' → IsPair h' s.heap.objs.size x y → h'.objs.size = s.heap.objs.size + 1 → Touch z TO i1 i2 s.heap h' → Q (.ref s.heap.objs.size) { s with heap := h' }) :
    wpAny (model prog w) A (Builtin.«zip.__next__» ⟨[.ref z], []⟩) (fun fin s' => ∃ v, fin = .done (.ret v) ∧ Q v s') E s := by
  have tz := @touch_one z TO i1 i2 z
  have tO := @touch_one z TO i1 i2 TO
  have t1 := @touch_one z TO i1 i2 i1
  have t2 := @touch_one z TO i1 i2 i2
  show wpAny _ _ (field (.ref z) 2 >>= _) _ _ _
  refine wpAny_bind (wpAny_field hz rfl (x := .bool false) rfl ?_)
  show wpAny _ _ (field (.ref z) 3 >>= _) _ _ _
  refine wpAny_bind (wpAny_field hz rfl (x := .ref TI) rfl (wpAny_bind (wpAny_seqItems hTI rfl ?_)))
  show wpAny _ _ (Builtin.SmallTypes.ownedTupleIsFree (.ref z) >>= _) _ _ _
  refine wpAny_bind ?_
  unfold Builtin.SmallTypes.ownedTupleIsFree
  refine wpAny_bind (wpAny_field hz rfl (x := .none) rfl (wpAny_pure ?_))
  simp only [if_true]
  refine wpAny_bind (wpAny_rule (wpAny_bind (wpAny_field hz rfl (x := .ref TO) rfl (wpAny_bind (wpAny_setField_rec hz (by simp) fun hA zA sA => ?_)))))
  replace zA : IsZip hA z TI TO .ellipsis := zA
  have uA : Touch z TO i1 i2 s.heap hA := tz (.inl rfl) sA.extBut
  refine wpAny_bind ?_
  simp only [List.zipIdx_cons, List.zipIdx_nil, List.forIn_cons, List.forIn_nil]
  -- the first iterator
  refine wpAny_bind (wpAny_bind (wpAny_onRaise ?_))
  show wpAny _ _ (Builtin.SmallTypes.nextOf (.ref i1) >>= _) _ _ _
  refine wpAny_bind (J1.item (J1.over h1 sA.extBut D.i1z D.l1z) hx fun hB sB1 sB => wpAny_pure ?_)
  have uB := uA.trans (t1 (.inr (.inr (.inl rfl))) sB.extBut)
  have pB : IsPair hB TO a b := sB.extBut _ _ D.TOi1 (sA.extBut _ _ D.TOz hTO)
  refine wpAny_bind (wpAny_seqItems pB rfl (wpAny_bind (wpAny_updateSeq_pair pB fun hC pC sC => ?_)))
  replace pC : IsPair hC TO x b := pC
  have uC := uB.trans (tO (.inr (.inl rfl)) sC.extBut)
  refine wpAny_bind (wpAny_letGo (wpAny_pure ?_))
  -- the second one
  refine wpAny_bind (wpAny_bind (wpAny_onRaise ?_))
  show wpAny _ _ (Builtin.SmallTypes.nextOf (.ref i2) >>= _) _ _ _
  have s2C : S2 k2 hC := J2.over (J2.over (J2.over h2 sA.extBut D.i2z D.l2z) sB.extBut D.i12.symm D.l2i1) sC.extBut D.TOi2.symm D.l2TO
  refine wpAny_bind (J2.item s2C hy fun hD sD2 sD => wpAny_pure ?_)
  have uD := uC.trans (t2 (.inr (.inr (.inr rfl))) sD.extBut)
  have pD : IsPair hD TO x b := sD.extBut _ _ D.TOi2 pC
  refine wpAny_bind (wpAny_seqItems pD rfl (wpAny_bind (wpAny_updateSeq_pair pD fun hE pE sE => ?_)))
  replace pE : IsPair hE TO x y := pE
  have uE := uD.trans (tO (.inr (.inl rfl)) sE.extBut)
  refine wpAny_bind (wpAny_letGo (wpAny_pure (wpAny_pure ?_)))
  -- the pair
  refine wpAny_bind (wpAny_seqItems pE rfl (wpAny_bind (wpAny_newTuple ?_)))
  have size : hE.objs.size = s.heap.objs.size := by rw [sE.1, sD.1, sC.1, sB.1, sA.1]
  have zE : IsZip hE z TI TO .ellipsis := sE.extBut _ _ D.TOz.symm (sD.extBut _ _ D.i2z.symm (sC.extBut _ _ D.TOz.symm (sB.extBut _ _ D.i1z.symm zA)))
  have s1E : S1 (k1 + 1) hE := J1.over (J1.over (J1.over sB1 sC.extBut D.TOi1.symm D.l1TO) sD.extBut D.i12 D.l1i2) sE.extBut D.TOi1.symm D.l1TO
  have s2E : S2 (k2 + 1) hE := J2.over sD2 sE.extBut D.TOi2.symm D.l2TO
  have zlt : z < hE.objs.size := Heap.lt_size zE
  show wpAny _ _ (Builtin.SmallTypes.ownedTupleHandOut (.ref z) (.ref hE.objs.size) >>= _) _ _ _
  refine wpAny_bind ?_
  unfold Builtin.SmallTypes.ownedTupleHandOut
  have zF : IsZip (hE.push { cls := .type "tuple", data := .seq #[x, y] }) z TI TO .ellipsis := Heap.get?_push_of_some _ zE
  refine wpAny_bind (wpAny_setField_rec zF (by simp) fun hG zG sG => ?_)
  replace zG : IsZip hG z TI TO (rawInt hE.objs.size) := zG
  refine wpAny_setField_rec zG (by simp) fun hH zH sH => ?_
  replace zH : IsZip hH z TI TO (rawInt hE.objs.size) := zH
  have up : Heap.ExtBut z hE hH := fun c o c1 e => sH.extBut _ _ c1 (sG.extBut _ _ c1 (Heap.get?_push_of_some _ e))
  have pH : IsPair hH hE.objs.size x y := sH.extBut _ _ (Nat.ne_of_gt zlt) (sG.extBut _ _ (Nat.ne_of_gt zlt) (Heap.get?_push_size _ rfl))
  have zsz : hH.objs.size = hE.objs.size + 1 := by rw [sH.1, sG.1, Heap.size_push]
  rw [size] at zH pH zsz
  refine wpAny_pure ⟨_, rfl, ?_⟩
  show Q (.ref hE.objs.size) _
  rw [size]
  exact hQ hH zH (up _ _ D.TOz pE) (J1.over s1E up D.i1z D.l1z) (J2.over s2E up D.i2z D.l2z) pH zsz (uE.trans (tz (.inl rfl) up))
theorem zipG_end {a b : Value} {Q : Fin → Shared → Prop} (hh : A.handled = none) (D : ZipApart z TI TO i1 i2 l1 l2) (J1 : Itr prog w i1 l1 xs S1) (J2 : Itr prog w i2 l2 ys S2)
    (hz : IsZip s.heap z TI TO .none) (hTI : IsPair s.heap TI (.ref i1) (.ref i2)) (hTO : IsPair s.heap TO a b) (h1 : S1 k1 s.heap) (h2 : S2 k2 s.heap) (hend : xs[k1]? = none ∨ ys[k2]? = none)
    (hE : ∀ h' e, Touch z TO i1 i2 s.heap h' → (∃ o, h'.get? e = some o ∧ o.cls = .type "StopIteration") → E (.ref e) { s with heap := h' }) :
    wpAny (model prog w) A (Builtin.«zip.__next__» ⟨[.ref z], []⟩) Q E s := by
  have tz := @touch_one z TO i1 i2 z
  have tO := @touch_one z TO i1 i2 TO
  have t1 := @touch_one z TO i1 i2 i1
  have t2 := @touch_one z TO i1 i2 i2
  show wpAny _ _ (field (.ref z) 2 >>= _) _ _ _
  refine wpAny_bind (wpAny_field hz rfl (x := .bool false) rfl ?_)
  show wpAny _ _ (field (.ref z) 3 >>= _) _ _ _
  refine wpAny_bind (wpAny_field hz rfl (x := .ref TI) rfl (wpAny_bind (wpAny_seqItems hTI rfl ?_)))
  show wpAny _ _ (Builtin.SmallTypes.ownedTupleIsFree (.ref z) >>= _) _ _ _
  refine wpAny_bind ?_
  unfold Builtin.SmallTypes.ownedTupleIsFree
  refine wpAny_bind (wpAny_field hz rfl (x := .none) rfl (wpAny_pure ?_))
  simp only [if_true]
  refine wpAny_bind (wpAny_rule (wpAny_bind (wpAny_field hz rfl (x := .ref TO) rfl (wpAny_bind (wpAny_setField_rec hz (by simp) fun hA zA sA => ?_)))))
  replace zA : IsZip hA z TI TO .ellipsis := zA
  have uA : Touch z TO i1 i2 s.heap hA := tz (.inl rfl) sA.extBut
  refine wpAny_bind ?_
  simp only [List.zipIdx_cons, List.zipIdx_nil, List.forIn_cons, List.forIn_nil]
  refine wpAny_bind (wpAny_bind (wpAny_onRaise ?_))
  show wpAny _ _ (Builtin.SmallTypes.nextOf (.ref i1) >>= _) _ _ _
  -- what is set back when an iterator is at its end
  have back : ∀ {h2 : Heap} {e : Addr}, Touch z TO i1 i2 s.heap h2 → IsZip h2 z TI TO .ellipsis → (∃ o, h2.get? e = some o ∧ o.cls = .type "StopIteration") → ∀ {h3 : Heap}, Heap.SameBut z h2 h3 → E (.ref e) { s with heap := h3 } := fun {h2 e} t iz he {h3} sb => by
    obtain ⟨o, ho, hc⟩ := he
    have ne : e ≠ z := fun q => by subst q; rw [iz] at ho; cases ho; simp at hc
    exact hE h3 e (t.trans (tz (.inl rfl) sb.extBut)) ⟨o, sb.extBut _ _ ne ho, hc⟩
  cases hx : xs[k1]? with
  | none =>
    refine wpAny_bind (J1.done hh (J1.over h1 sA.extBut D.i1z D.l1z) hx fun hB e sB he => ?_)
    have zB : IsZip hB z TI TO .ellipsis := sB _ _ D.i1z.symm zA
    exact wpAny_setField_rec zB (by simp) fun hC _ sC => back (uA.trans (t1 (.inr (.inr (.inl rfl))) sB)) zB he sC
  | some x =>
    have hy : ys[k2]? = none := by
      rcases hend with q | q
      · rw [hx] at q; cases q
      · exact q
    refine wpAny_bind (J1.item (J1.over h1 sA.extBut D.i1z D.l1z) hx fun hB sB1 sB => wpAny_pure ?_)
    have uB := uA.trans (t1 (.inr (.inr (.inl rfl))) sB.extBut)
    have pB : IsPair hB TO a b := sB.extBut _ _ D.TOi1 (sA.extBut _ _ D.TOz hTO)
    refine wpAny_bind (wpAny_seqItems pB rfl (wpAny_bind (wpAny_updateSeq_pair pB fun hC pC sC => ?_)))
    have uC := uB.trans (tO (.inr (.inl rfl)) sC.extBut)
    refine wpAny_bind (wpAny_letGo (wpAny_pure ?_))
    refine wpAny_bind (wpAny_bind (wpAny_onRaise ?_))
    show wpAny _ _ (Builtin.SmallTypes.nextOf (.ref i2) >>= _) _ _ _
    have s2C : S2 k2 hC := J2.over (J2.over (J2.over h2 sA.extBut D.i2z D.l2z) sB.extBut D.i12.symm D.l2i1) sC.extBut D.TOi2.symm D.l2TO
    refine wpAny_bind (J2.done hh s2C hy fun hD e sD he => ?_)
    have zD : IsZip hD z TI TO .ellipsis := sD _ _ D.i2z.symm (sC.extBut _ _ D.TOz.symm (sB.extBut _ _ D.i1z.symm zA))
    exact wpAny_setField_rec zD (by simp) fun hE _ sE => back (uC.trans (t2 (.inr (.inr (.inr rfl))) sD)) zD he sE
theorem pyNextG_item {a b x y : Value} {Q : Option Value → Shared → Prop} (D : ZipApart z TI TO i1 i2 l1 l2) (J1 : Itr prog w i1 l1 xs S1) (J2 : Itr prog w i2 l2 ys S2)
    (hz : IsZip s.heap z TI TO .none) (hTI : IsPair s.heap TI (.ref i1) (.ref i2)) (hTO : IsPair s.heap TO a b) (h1 : S1 k1 s.heap) (h2 : S2 k2 s.heap) (hx : xs[k1]? = some x) (hy : ys[k2]? = some y)
    (hQ : ∀ h', IsZip h' z TI TO (rawInt s.heap.objs.size) → IsPair h' TO x y → S1 (k1 + 1) h' → S2 (k2 + 1) h' → IsPair h' s.heap.objs.size x y → h'.objs.size = s.heap.objs.size + 1 → Touch z TO i1 i2 s.heap h' → Q (some (.ref s.heap.objs.size)) { s with heap := h' }) :
    wpAny (model prog w) A (pyNext (.ref z)) Q E s := by
  have hT : s.TypeIs (.ref z) "zip" := ⟨_, hz, rfl⟩
  unfold pyNext
  exact wpAny_bind (wpAny_attempt (wpAny_callSpecial?_slot (name := Str.ofString "__next__") hT F.slot_zip_next
    (wpAny_call_entry F.slot_zip_next hT F.entry_zip_next (zipG_item D J1 J2 hz hTI hTO h1 h2 hx hy fun h' b1 b2 b3 b4 b5 b6 b7 => wpAny_pure (hQ h' b1 b2 b3 b4 b5 b6 b7)) (F.args_zip_next_1 _))))
theorem pyNextG_end {a b : Value} {Q : Option Value → Shared → Prop} (hh : A.handled = none) (D : ZipApart z TI TO i1 i2 l1 l2) (J1 : Itr prog w i1 l1 xs S1) (J2 : Itr prog w i2 l2 ys S2)
    (hz : IsZip s.heap z TI TO .none) (hTI : IsPair s.heap TI (.ref i1) (.ref i2)) (hTO : IsPair s.heap TO a b) (h1 : S1 k1 s.heap) (h2 : S2 k2 s.heap) (hend : xs[k1]? = none ∨ ys[k2]? = none)
    (hQ : ∀ h', Touch z TO i1 i2 s.heap h' → Q none { s with heap := h' }) : wpAny (model prog w) A (pyNext (.ref z)) Q E s := by
  have hT : s.TypeIs (.ref z) "zip" := ⟨_, hz, rfl⟩
  unfold pyNext
  refine wpAny_bind (wpAny_attempt (wpAny_callSpecial?_slot (name := Str.ofString "__next__") hT F.slot_zip_next
    (wpAny_call_entry F.slot_zip_next hT F.entry_zip_next (zipG_end hh D J1 J2 hz hTI hTO h1 h2 hend fun h' e hk he => ?_) (F.args_zip_next_1 _))))
  obtain ⟨o, ho, hc⟩ := he
  exact wpAny_bind (wpAny_isInstance (T := "StopIteration") (b := true) ⟨o, ho, hc⟩ isSubtype_stop (wpAny_pure (hQ _ hk)))
end
end Pm
namespace Pm
open PySem PySem.Spec L2 PyProof.Rows
/-! ### zip of a tuple and a list -/
section
abbrev zmA (h : Heap) (l1 : Addr) : Heap := h.push { cls := .type "tuple_iterator", data := .fields #[.ref l1, .int 0 0] }
abbrev zmB (h : Heap) (l1 l2 : Addr) : Heap := (zmA h l1).push { cls := .type "list_iterator", data := .fields #[.ref l2, .int 0 0] }
abbrev zmC (h : Heap) (l1 l2 : Addr) : Heap := (zmB h l1 l2).push { cls := .type "tuple", data := .seq #[.ref h.objs.size, .ref (zmA h l1).objs.size] }
abbrev zmD (h : Heap) (l1 l2 : Addr) : Heap := (zmC h l1 l2).push { cls := .type "tuple", data := .seq #[.none, .none] }
abbrev zmE (h : Heap) (l1 l2 : Addr) : Heap := (zmD h l1 l2).push { cls := .type "zip", data := .fields #[.none, .bool false, .bool false, .ref (zmB h l1 l2).objs.size, .ref (zmC h l1 l2).objs.size] }
theorem meets_zipTL (l1 l2 : Addr) (xs ys : Array Value) :
    Meets (Builtin.«zip.__new__» ⟨[.type "zip", .ref l1, .ref l2], []⟩) (fun _ R s => s.heap.IsTuple l1 xs ∧ s.heap.IsList l2 ys ∧ R (.ok (.ret (.ref (zmD s.heap l1 l2).objs.size))) { s with heap := zmE s.heap l1 l2 }) :=
  .of_wp fun prog w A R s h => by
    obtain ⟨hp, g, d, tk, os⟩ := s
    obtain ⟨a1, a2, a3⟩ := h
    have hsub := sub_zip
    have b1 : Heap.IsTuple (Shared.heap ⟨hp, g, d, tk, os⟩) l1 xs := a1
    have b2 : Heap.IsList (Shared.heap ⟨zmA hp l1, g, d, tk, os⟩) l2 ys := Heap.IsList.push a2 _
    wp_walk using wpAny_pyIter_tuple b1, wpAny_pyIter_list b2
    exact ⟨_, rfl, a3⟩
variable {prog : Program} {w : World} {A : Around} {E : Value → Shared → Prop} {s : Shared}
theorem call_zipTL {l1 l2 : Addr} {xs ys : Array Value} {Q : Value → Shared → Prop} (a1 : s.heap.IsTuple l1 xs) (a2 : s.heap.IsList l2 ys)
    (h : ∀ h', IsZip h' (s.heap.objs.size + 4) (s.heap.objs.size + 2) (s.heap.objs.size + 3) .none → IsPair h' (s.heap.objs.size + 2) (.ref s.heap.objs.size) (.ref (s.heap.objs.size + 1)) → IsPair h' (s.heap.objs.size + 3) .none .none →
      h'.IsTupleIter s.heap.objs.size l1 0 → h'.IsListIter (s.heap.objs.size + 1) l2 0 → (∀ c o, s.heap.get? c = some o → h'.get? c = some o) → Q (.ref (s.heap.objs.size + 4)) { s with heap := h' }) :
    wpAny (model prog w) A (call (.type "zip") [.ref l1, .ref l2]) Q E s := by
  refine callType_new F.called_zip (by decide) (F.typeCall_zip_2 _ _) (F.newCall_zip_2 _ _) (fun obj => F.args_object_init_3 obj _ _) F.entry_zip_new (meets_zipTL l1 l2 xs ys) ⟨a1, a2, ?_⟩
  have zA : (zmA s.heap l1).objs.size = s.heap.objs.size + 1 := Heap.size_push ..
  have zB : (zmB s.heap l1 l2).objs.size = s.heap.objs.size + 2 := by rw [Heap.size_push, zA]
  have zC : (zmC s.heap l1 l2).objs.size = s.heap.objs.size + 3 := by rw [Heap.size_push, zB]
  have zD : (zmD s.heap l1 l2).objs.size = s.heap.objs.size + 4 := by rw [Heap.size_push, zC]
  have up : ∀ {h : Heap} {o o' : Obj} {c : Addr}, h.get? c = some o → (h.push o').get? c = some o := fun e => Heap.get?_push_of_some _ e
  have gE : (zmE s.heap l1 l2).get? (zmD s.heap l1 l2).objs.size = some _ := Heap.get?_push_size _ rfl
  have gD : (zmE s.heap l1 l2).get? (zmC s.heap l1 l2).objs.size = some _ := up (Heap.get?_push_size _ rfl)
  have gC : (zmE s.heap l1 l2).get? (zmB s.heap l1 l2).objs.size = some _ := up (up (Heap.get?_push_size _ rfl))
  have gB : (zmE s.heap l1 l2).get? (zmA s.heap l1).objs.size = some _ := up (up (up (Heap.get?_push_size _ rfl)))
  have gA : (zmE s.heap l1 l2).get? s.heap.objs.size = some _ := up (up (up (up (Heap.get?_push_size _ rfl))))
  show _ ∧ _
  rw [zB, zC, zD] at gE
  rw [zA, zB] at gC
  rw [zC] at gD
  rw [zA] at gB
  rw [zD]
  exact ⟨⟨_, gE, rfl⟩, h _ gE gC gD ⟨_, gA, rfl, rfl⟩ ⟨_, gB, rfl, rfl⟩ fun c o e => up (up (up (up (up e))))⟩
end
/-- a tuple at a, a list at b, the items in new pairs -/
def ItzTL (K : PySem.W.Frag) (a b : Addr) : It :=
  ⟨fun i H => ∃ (xs ys : List V) (x y : V), SqT K H a xs ∧ SqL K H b ys ∧ xs[i]? = some x ∧ ys[i]? = some y,
    fun i H v H' => ∃ T x y, v = .ref T ∧ H T = none ∧ H' = upd H T (.tup [x, y]) ∧ (∀ xs, SqT K H a xs → xs[i]? = some x) ∧ ∀ ys, SqL K H b ys → ys[i]? = some y,
    fun i H => ∃ xs ys : List V, SqT K H a xs ∧ SqL K H b ys ∧ (xs.length ≤ i ∨ ys.length ≤ i)⟩
theorem turn_zipTL {P : Program} {w : World} {K : PySem.W.Frag} {elts : List Expr} {kk : Nat} {tpos : Pos} {a b z TI TO i1 i2 : Addr} (D : ZipApart z TI TO i1 i2 a b) :
    L2.Turn P w K (.Tuple elts kk tpos) (ItzTL K a b) [z, TI, TO, i1, i2] z (fun i h => IsZip h z TI TO .none ∧ IsPair h TI (.ref i1) (.ref i2) ∧ (∃ x y, IsPair h TO x y) ∧ h.IsTupleIter i1 a i ∧ h.IsListIter i2 b i) where
  mem := by simp
  obj := fun i h st c hc => by
    obtain ⟨hz, hTI, ⟨x, y, hTO⟩, ⟨o1, e1, _, d1⟩, ⟨o2, e2, _, d2⟩⟩ := st
    simp only [List.mem_cons, List.not_mem_nil, or_false] at hc
    rcases hc with rfl | rfl | rfl | rfl | rfl
    · exact ⟨_, hz, fun v q => nomatch q⟩
    · exact ⟨_, hTI, fun v q => nomatch q⟩
    · exact ⟨_, hTO, fun v q => nomatch q⟩
    · exact ⟨o1, e1, fun v q => by rw [d1] at q; cases q⟩
    · exact ⟨o2, e2, fun v q => by rw [d2] at q; cases q⟩
  keep := fun i h h' ⟨hz, hTI, ⟨x, y, hTO⟩, h1, h2⟩ k => ⟨k z (by simp) _ hz, k TI (by simp) _ hTI, ⟨x, y, k TO (by simp) _ hTO⟩, h1.at fun o q => k i1 (by simp) o q, h2.at fun o q => k i2 (by simp) o q⟩
  item := by
    intro X hP hw hK hc i pins s σ H E I hf st hg
    subst hP hw hK
    obtain ⟨hz, hTI, ⟨x0, y0, hTO⟩, h1, h2⟩ := st
    obtain ⟨xs, ys, x, y, qx, qy, hx, hy⟩ := hg
    obtain ⟨its, rv, pp, _⟩ := I.tuple qx
    obtain ⟨its2, rv2, pp2, _⟩ := I.list qy
    obtain ⟨u, hu, ru⟩ := rv.get hx
    obtain ⟨u2, hu2, ru2⟩ := rv2.get hy
    have zlt : z < s.heap.objs.size := Heap.lt_size hz
    refine pyNextG_item (E := E) D (itr_tuple D.l1i1) (itr_list D.l2i2) hz hTI hTO ⟨h1, pp⟩ ⟨h2, pp2.isList⟩ (x := u) (y := u2) (by simpa using hu) (by simpa using hu2) fun h' z' TO' s1 s2 hT hsz hk => ?_
    refine ⟨_, rfl, wpAny_letOwnedTupleGo_zip (s := { s with heap := h' }) z' fun h'' z'' sb => ?_⟩
    have hT2 : h''.get? s.heap.objs.size = some { cls := .type "tuple", data := .seq #[u, u2] } := (sb.2 _ (Nat.ne_of_gt zlt)).trans hT
    have new : ObjOk X.prog X.w (upd H s.heap.objs.size (.tup [x, y])) h'' s.heap.objs.size (.tup [x, y]) :=
      ⟨by show 2 ≤ sizeLine; decide, [u, u2], .cons ru (.cons ru2 .nil), ⟨_, hT2, rfl, _, rfl⟩⟩
    have ne : ∀ c, c ∉ [z, TI, TO, i1, i2] → c ≠ z ∧ c ≠ TO ∧ c ≠ i1 ∧ c ≠ i2 := fun c hb => by
      simp only [List.mem_cons, List.not_mem_nil, or_false, not_or] at hb
      exact ⟨hb.1, hb.2.2.1, hb.2.2.2.1, hb.2.2.2.2⟩
    have I1 : Inv X pins σ (upd H s.heap.objs.size (.tup [x, y])) { s with heap := h'' } :=
      I.turnedNew (t' := s.toks) (ch := [z, TI, TO, i1, i2]) (fun c o hb q => (sb.2 c (ne c hb).1).trans (hk c o (ne c hb).1 (ne c hb).2.1 (ne c hb).2.2.1 (ne c hb).2.2.2 q)) hf (Nat.le_refl _) new
    refine ⟨.ref s.heap.objs.size, _, I1, rfl, ⟨_, x, y, rfl, I.hok.fresh (Nat.le_refl _), rfl, fun l hl => by rw [I.tuple_inj hl qx]; exact hx, fun l hl => by rw [I.list_inj hl qy]; exact hy⟩, ⟨z'', ?_, ⟨u, u2, ?_⟩, ?_, ?_⟩, fun c hcm => ?_⟩
    · exact (sb.2 _ D.TIz).trans (hk _ _ D.TIz D.TITO D.TIi1 D.TIi2 hTI)
    · exact (sb.2 _ D.TOz).trans TO'
    · exact s1.1.at fun o q => (sb.2 _ D.i1z).trans q
    · exact s2.1.at fun o q => (sb.2 _ D.i2z).trans q
    · have hlt : c < s.heap.objs.size := by
        simp only [List.mem_cons, List.not_mem_nil, or_false] at hcm
        rcases hcm with rfl | rfl | rfl | rfl | rfl
        · exact zlt
        · exact Heap.lt_size hTI
        · exact Heap.lt_size hTO
        · obtain ⟨_, e1, _⟩ := h1; exact Heap.lt_size e1
        · obtain ⟨_, e2, _⟩ := h2; exact Heap.lt_size e2
      rw [upd_ne (Nat.ne_of_lt hlt)]
      exact (hf c hcm).1
  done := by
    intro X hP hw hK hc i pins s σ H E I hf st hg
    subst hP hw hK
    obtain ⟨hz, hTI, ⟨x0, y0, hTO⟩, h1, h2⟩ := st
    obtain ⟨xs, ys, qx, qy, hend⟩ := hg
    obtain ⟨its, rv, pp, _⟩ := I.tuple qx
    obtain ⟨its2, rv2, pp2, _⟩ := I.list qy
    have l1 := rv.length
    have l2 := rv2.length
    have he : its.toArray[i]? = none ∨ its2.toArray[i]? = none := by
      rcases hend with q | q
      · exact .inl (by simp; omega)
      · exact .inr (by simp; omega)
    have ne : ∀ c, c ∉ [z, TI, TO, i1, i2] → c ≠ z ∧ c ≠ TO ∧ c ≠ i1 ∧ c ≠ i2 := fun c hb => by
      simp only [List.mem_cons, List.not_mem_nil, or_false, not_or] at hb
      exact ⟨hb.1, hb.2.2.1, hb.2.2.2.1, hb.2.2.2.2⟩
    exact pyNextG_end (I.ok.hd hc) D (itr_tuple D.l1i1) (itr_list D.l2i2) hz hTI hTO ⟨h1, pp⟩ ⟨h2, pp2.isList⟩ he fun h' hk => ⟨rfl, I.turnedL (t' := s.toks) (ch := [z, TI, TO, i1, i2]) (fun c o hb q => hk c o (ne c hb).1 (ne c hb).2.1 (ne c hb).2.2.1 (ne c hb).2.2.2 q) hf⟩
  self := fun A i s Q E st h => wpAny_pyIter_zip st.1 h
end Pm
namespace Pm
open PySem PySem.Spec L2 PyProof.Rows
/-! ### zip of two lists, two tuples, or a tuple and a list -/
def iZipM (K : PySem.W.Frag) (ta : TA) : TI := fun σ H R => ta σ H fun vs H1 => ∃ a b xs ys, vs = [.ref a, .ref b] ∧ ((SqL K H1 a xs ∧ SqL K H1 b ys ∧ R (Itz K a b) H1) ∨ (SqT K H1 a xs ∧ SqT K H1 b ys ∧ R (RZ.ItzT K a b) H1) ∨ (SqT K H1 a xs ∧ SqL K H1 b ys ∧ R (ItzTL K a b) H1))
theorem pi_zipM {X : Cx} {e e2 : Expr} {ta : TA} {p pos tpos : Pos} {elts : List Expr} {kk : Nat} (hg : Gl X "zip") (hm : X.mg "zip" = none) (ha : PA X [e, e2] ta)
    (hs : starEach [e, e2] X.env = (false, eval e X.env) :: starEach [e2] X.env := by rfl) (hpl : (backTo pos (starEach [e2] X.env)).any (·.1) = false := by rfl) :
    PI X (.Tuple elts kk tpos) (.Call (.Name "zip" p) [e, e2] [] pos) (iZipM X.K ta) := by
  refine ⟨fun pins s σ H R I h => ?_⟩
  refine Call_ (ld_blt I hg hm PyProof.Rows.boot_zip (PyProof.Rows.callWith_type1 (thn (ha.run pos pins s σ H _ I h) fun us s1 ⟨vs, H1, I1, r1, q1⟩ => ?_) hs hpl))
  obtain ⟨a, b, xs, ys, rfl, q1⟩ := q1
  obtain ⟨ua, ub, rfl, ra, rb⟩ : ∃ ua ub, us = [ua, ub] ∧ RelV (.ref a) ua ∧ RelV (.ref b) ub := by
    cases r1 with
    | cons r rr => cases rr with
      | cons r' rr => cases rr; exact ⟨_, _, rfl, r, r'⟩
  cases ra
  cases rb
  obtain ⟨n, hn⟩ : ∃ n, n = s1.heap.objs.size := ⟨_, rfl⟩
  have fr : ∀ c, c ∈ [s1.heap.objs.size + 4, s1.heap.objs.size + 2, s1.heap.objs.size + 3, s1.heap.objs.size, s1.heap.objs.size + 1] → FpOk X pins H1 c := fun c hc => by
    have le : s1.heap.objs.size ≤ c := by
      simp only [List.mem_cons, List.not_mem_nil, or_false] at hc; omega
    exact I1.fpOk le (I1.hok.fresh le)
  rcases q1 with ⟨qx, qy, q⟩ | ⟨qx, qy, q⟩ | ⟨qx, qy, q⟩
  · obtain ⟨_, _, p1, _⟩ := I1.list qx
    obtain ⟨_, _, p2, _⟩ := I1.list qy
    refine call_zip_2 p1.isList p2.isList fun h' b1 b2 b3 b4 b5 _ hk => wpAny_pyIter_zip b1 ?_
    exact ⟨_, _, _, _, H1, rfl, I1.kept (t' := s1.toks) hk, turn_zip (PySem.W.ktu_apart s1.heap.objs.size a b p1.lt p2.lt), ⟨b1, b2, ⟨_, _, b3⟩, b4, b5⟩, fr, q⟩
  · obtain ⟨its, _, p1, _⟩ := I1.tuple qx
    obtain ⟨its2, _, p2, _⟩ := I1.tuple qy
    have l1 : a < s1.heap.objs.size := by obtain ⟨_, e, _⟩ := id p1; exact Heap.lt_size e
    have l2 : b < s1.heap.objs.size := by obtain ⟨_, e, _⟩ := id p2; exact Heap.lt_size e
    refine RZ.call_zipT (show s1.heap.IsTuple a its.toArray from p1) (show s1.heap.IsTuple b its2.toArray from p2) fun h' b1 b2 b3 b4 b5 _ hk => wpAny_pyIter_zip b1 ?_
    exact ⟨_, _, _, _, H1, rfl, I1.kept (t' := s1.toks) hk, RZ.turn_zipT (PySem.W.ktu_apart s1.heap.objs.size a b l1 l2), ⟨b1, b2, ⟨_, _, b3⟩, b4, b5⟩, fr, q⟩
  · obtain ⟨its, _, p1, _⟩ := I1.tuple qx
    obtain ⟨its2, _, p2, _⟩ := I1.list qy
    have l1 : a < s1.heap.objs.size := by obtain ⟨_, e, _⟩ := id p1; exact Heap.lt_size e
    refine call_zipTL (show s1.heap.IsTuple a its.toArray from p1) p2.isList fun h' b1 b2 b3 b4 b5 hk => wpAny_pyIter_zip b1 ?_
    exact ⟨_, _, _, _, H1, rfl, I1.kept (t' := s1.toks) hk, turn_zipTL (PySem.W.ktu_apart s1.heap.objs.size a b l1 p2.lt), ⟨b1, b2, ⟨_, _, b3⟩, b4, b5⟩, fr, q⟩
section
variable {K : PySem.W.Frag} {a b : Addr} {n : Nat}
theorem walkTL : Walk (ItzTL K a b) n (fun H => ∃ us vs, SqT K H a us ∧ SqL K H b vs ∧ n = min us.length vs.length) (fun i H v H' => ∃ T x y, v = .ref T ∧ H T = none ∧ H' = upd H T (.tup [x, y]) ∧ (∀ us, SqT K H a us → us[i]? = some x) ∧ ∀ vs, SqL K H b vs → vs[i]? = some y) :=
  ⟨fun i H hi ⟨us, vs, q1, q2, e⟩ => ⟨us, vs, us[i]'(by omega), vs[i]'(by omega), q1, q2, by simp [show i < us.length by omega], by simp [show i < vs.length by omega]⟩, fun H ⟨us, vs, q1, q2, e⟩ => ⟨us, vs, q1, q2, by omega⟩, fun _ _ _ _ _ _ y => y⟩
end
def srcZipM : List PV → VH → Res Src
  | [.tup xs, .lst ys], h => .ok ⟨zipL xs ys, []⟩ h
  | vs, h => srcZip vs h
theorem srcZipM_tl (xs ys : List PV) (h : VH) : srcZipM [.tup xs, .lst ys] h = .ok ⟨zipL xs ys, []⟩ h := rfl
theorem srcZipM_tt (xs ys : List PV) (h : VH) : srcZipM [.tup xs, .tup ys] h = .ok ⟨zipL xs ys, []⟩ h := rfl
section
variable {c : Ck} {X : Cx} {W : WX} {pos p : Pos} {e e2 tg : Expr} {es : List Expr} {m : EM} {ms : AM}
def iZpM (ms : AM) : LS → VH → Res Src := fun σ h => (ms σ h).bind srcZipM
theorem iZpM_def (σ : LS) (h : VH) : iZpM ms σ h = (ms σ h).bind srcZipM := rfl
theorem SI.zipM {elts : List Expr} {kk : Nat} {tpos : Pos} (hg : Gl X "zip") (hm : X.mg "zip" = none) (ha : SA c X W [e, e2] ms) (hs : starEach [e, e2] X.env = (false, eval e X.env) :: starEach [e2] X.env := by rfl) (hpl : (backTo pos (starEach [e2] X.env)).any (·.1) = false := by rfl) :
    SI c X W (.Tuple elts kk tpos) (.Call (.Name "zip" p) [e, e2] [] pos) (iZpM ms) := by
  obtain ⟨la, t, pa, s⟩ := ha
  refine ⟨_, pi_zipM hg hm pa hs hpl, fun g σ h τ H R rs rh q => s g σ h τ H _ rs rh ((Post.bind q).imp (fun us H1 ⟨g1, xs, h1, m1, q1⟩ => ?_) fun _ _ _ z => z)⟩
  unfold srcZipM at q1
  split at q1
  · rename_i xs ys
    obtain ⟨u, v, rfl, rx, ry⟩ := m1.rep.two
    obtain ⟨a, us, rfl, s1, r1⟩ := tup_run rx m1.rel
    obtain ⟨b, vs, rfl, s2, r2⟩ := lstOf_run ry m1.rel (lstOf_lst ys h1)
    refine ⟨a, b, us, vs, rfl, .inr (.inr ⟨.inl (.inl s1), s2, q1.go m1.rel ⟨_, _, walkTL, fun g' h' H' l hn rh' _ => ?_, fun i z g' h' H' H2 l hn rh' _ hz u' hu => ?_⟩⟩)⟩
    · obtain ⟨a', us', e, s', r'⟩ := tup_run (rx.mono0 l hn) rh'
      cases e
      obtain ⟨b', vs', e, s2', r2'⟩ := lstOf_run (ry.mono0 l hn) rh' (lstOf_lst ys h')
      cases e
      exact ⟨us', vs', .inl (.inl s'), s2', by rw [r'.length, r2'.length, zipL_length]⟩
    · obtain ⟨T, x, y, rfl, nT, rfl, hu1, hu2⟩ := hu
      obtain ⟨zx, zy, e1, e2, rfl⟩ := zipL_get hz
      obtain ⟨a', us', e, s', r'⟩ := tup_run (rx.mono0 l hn) rh'
      cases e
      obtain ⟨b', vs', e, s2', r2'⟩ := lstOf_run (ry.mono0 l hn) rh' (lstOf_lst ys h')
      cases e
      obtain ⟨w1, f1, q1⟩ := r'.get e1
      obtain ⟨w2, f2, q2⟩ := r2'.get e2
      have z1 := hu1 us' (.inl (.inl s'))
      have z2 := hu2 vs' s2'
      rw [f1] at z1; cases z1
      rw [f2] at z2; cases z2
      obtain ⟨le, rh2⟩ := RelH.frz (o := .tup [x, y]) rh' nT
      refine ⟨_, le, rh2, ?_⟩
      simp only [Rep]
      exact ⟨T, _, rfl, upd_same, Reps.cons (q1.mono le (Nat.le_refl _)) (Reps.cons (q2.mono le (Nat.le_refl _)) Reps.nil)⟩
  · rename_i _ _ zz
    clear zz
    unfold srcZip at q1
    split at q1
    · rename_i xs ys
      obtain ⟨u, v, rfl, rx, ry⟩ := m1.rep.two
      obtain ⟨a, us, rfl, s1, r1⟩ := tup_run rx m1.rel
      obtain ⟨b, vs, rfl, s2, r2⟩ := tup_run ry m1.rel
      refine ⟨a, b, us, vs, rfl, .inr (.inl ⟨.inl (.inl s1), .inl (.inl s2), q1.go m1.rel ⟨_, _, walkZT, fun g' h' H' l hn rh' _ => ?_, fun i z g' h' H' H2 l hn rh' _ hz u' hu => ?_⟩⟩)⟩
      · obtain ⟨a', us', e, s', r'⟩ := tup_run (rx.mono0 l hn) rh'
        cases e
        obtain ⟨b', vs', e, s2', r2'⟩ := tup_run (ry.mono0 l hn) rh'
        cases e
        exact ⟨us', vs', .inl (.inl s'), .inl (.inl s2'), by rw [r'.length, r2'.length, zipL_length]⟩
      · obtain ⟨T, x, y, rfl, nT, rfl, hu1, hu2⟩ := hu
        obtain ⟨zx, zy, e1, e2, rfl⟩ := zipL_get hz
        obtain ⟨a', us', e, s', r'⟩ := tup_run (rx.mono0 l hn) rh'
        cases e
        obtain ⟨b', vs', e, s2', r2'⟩ := tup_run (ry.mono0 l hn) rh'
        cases e
        obtain ⟨w1, f1, q1⟩ := r'.get e1
        obtain ⟨w2, f2, q2⟩ := r2'.get e2
        have z1 := hu1 us' (.inl (.inl s'))
        have z2 := hu2 vs' (.inl (.inl s2'))
        rw [f1] at z1; cases z1
        rw [f2] at z2; cases z2
        obtain ⟨le, rh2⟩ := RelH.frz (o := .tup [x, y]) rh' nT
        refine ⟨_, le, rh2, ?_⟩
        simp only [Rep]
        exact ⟨T, _, rfl, upd_same, Reps.cons (q1.mono le (Nat.le_refl _)) (Reps.cons (q2.mono le (Nat.le_refl _)) Reps.nil)⟩
    · rename_i x0 y0 _
      obtain ⟨u, v, rfl, rx, ry⟩ := m1.rep.two
      split at q1
      · rename_i xs ys ex ey
        obtain ⟨a, us, rfl, s1, r1⟩ := lstOf_run rx m1.rel ex
        obtain ⟨b, vs, rfl, s2, r2⟩ := lstOf_run ry m1.rel ey
        have now : ∀ {g' h' H'}, g1.le0 h1.length g' → h1.length ≤ h'.length → RelH (kx c X) g' h' H' → ckOk (ckOf x0 h1 ++ ckOf y0 h1) h' → ∃ us' vs', SqL X.K H' a us' ∧ SqL X.K H' b vs' ∧ Reps (kx c X) g' h'.length xs us' ∧ Reps (kx c X) g' h'.length ys vs' := fun {g' h' H'} l hn rh' ck => by
          obtain ⟨c1, c2⟩ := ckOk_app.mp ck
          obtain ⟨e1, rx'⟩ := keptL rx m1.rel ex l hn rh' c1
          obtain ⟨e2, ry'⟩ := keptL ry m1.rel ey l hn rh' c2
          obtain ⟨a', us', e, s', r'⟩ := lstOf_run rx' rh' e1
          cases e
          obtain ⟨b', vs', e, s2', r2'⟩ := lstOf_run ry' rh' e2
          cases e
          exact ⟨us', vs', s', s2', r', r2'⟩
        refine ⟨a, b, us, vs, rfl, .inl ⟨s1, s2, q1.go m1.rel ⟨_, _, walkZ, fun g' h' H' l hn rh' ck => ?_, fun i z g' h' H' H2 l hn rh' ck hz u' hu => ?_⟩⟩⟩
        · obtain ⟨us', vs', s', s2', r', r2'⟩ := now l hn rh' ck
          exact ⟨us', vs', s', s2', by rw [r'.length, r2'.length, zipL_length]⟩
        · obtain ⟨T, x, y, rfl, nT, rfl, hu1, hu2⟩ := hu
          obtain ⟨zx, zy, e1, e2, rfl⟩ := zipL_get hz
          obtain ⟨us', vs', s', s2', r', r2'⟩ := now l hn rh' ck
          obtain ⟨w1, f1, q1⟩ := r'.get e1
          obtain ⟨w2, f2, q2⟩ := r2'.get e2
          have z1 := hu1 us' s'
          have z2 := hu2 vs' s2'
          rw [f1] at z1; cases z1
          rw [f2] at z2; cases z2
          obtain ⟨le, rh2⟩ := RelH.frz (o := .tup [x, y]) rh' nT
          refine ⟨_, le, rh2, ?_⟩
          simp only [Rep]
          exact ⟨T, _, rfl, upd_same, Reps.cons (q1.mono le (Nat.le_refl _)) (Reps.cons (q2.mono le (Nat.le_refl _)) Reps.nil)⟩
      · exact q1.elim
    · exact q1.elim
end
end Pm
namespace Pm
open PySem PySem.Spec L2 PyProof.Rows
/-! ### depths -/
theorem allD_up {f g : PV → Option PyData} : ∀ {xs : List PV} {ds : List PyData}, (∀ x ∈ xs, ∀ d, f x = some d → g x = some d) → allD f xs = some ds → allD g xs = some ds
  | [], ds, _, e => e
  | x :: xs, ds, h, e => by
    unfold allD at e ⊢
    cases e1 : f x with
    | none => rw [e1] at e; simp at e
    | some d =>
      cases e2 : allD f xs with
      | none => rw [e1, e2] at e; simp at e
      | some es =>
        rw [h x List.mem_cons_self d e1, allD_up (fun y hy => h y (List.mem_cons_of_mem _ hy)) e2]
        rw [e1, e2] at e; exact e
theorem toD_up {h : VH} : ∀ (n : Nat) (v : PV) (d : PyData), toD h n v = some d → toD h (n + 1) v = some d
  | 0, v, d, e => by
    cases v <;> simp_all [toD]
  | n + 1, v, d, e => by
    cases v with
    | tup xs =>
      rw [toD_tup] at e ⊢
      cases q : allD (toD h n) xs with
      | none => rw [q] at e; simp at e
      | some ds => rw [allD_up (fun x _ d => toD_up n x d) q]; rw [q] at e; exact e
    | lst xs =>
      rw [toD_lst] at e ⊢
      cases q : allD (toD h n) xs with
      | none => rw [q] at e; simp at e
      | some ds => rw [allD_up (fun x _ d => toD_up n x d) q]; rw [q] at e; exact e
    | ref i =>
      unfold toD at e ⊢
      cases q : h[i]? with
      | none => rw [q] at e; simp at e
      | some o =>
        rw [q] at e
        cases o with
        | lst xs =>
          simp only at e ⊢
          cases q : allD (toD h n) xs with
          | none => rw [q] at e; simp at e
          | some ds => rw [allD_up (fun x _ d => toD_up n x d) q]; rw [q] at e; exact e
        | _ => simp at e
    | _ => first | (simpa using e) | (simp [toD] at e)
theorem Rp.deep {n w : Nat} {v : PV} {d : PyData} (r : Rp n w v d) : Rp (n + 1) w v d := ⟨fun h => toD_up n v d (r.dat h), r.lay, r.sh, r.wt⟩
theorem Pv.deep {n w : Nat} {v : PV} (p : Pv n w v) : Pv (n + 1) w v := ⟨p.kd, p.row, p.cl, p.clean, let ⟨d, r⟩ := p.sh; ⟨d, r.deep⟩⟩
def isBtwV (v : PV) (lo hi : Int) : Bool := match v with
  | .int i => decide (lo ≤ i ∧ i ≤ hi)
  | _ => false
end Pm
namespace Pm
open PySem PySem.Spec L2 PyProof.Rows
/-! ### list(range(..)), tuple(range(..)) -/
section
variable {c : Ck} {X : Cx} {W : WX} {pos p p2 : Pos} {e e2 : Expr} {m m2 : EM}
theorem rgV_reps {K : Kc} {g : Gh} {n : Nat} {a : Int} {k : Nat} : Reps K g n (rngL a k) ((List.range k).map fun i => V.int (a + (i : Nat))) := by
  unfold rngL
  have : ∀ L : List Nat, Reps K g n (L.map fun i => PV.int (a + (i : Nat))) (L.map fun i => V.int (a + (i : Nat))) := fun L => by
    induction L with
    | nil => exact Reps.nil
    | cons i L ih => exact Reps.cons (by simp only [Rep]) ih
  exact this _
/-- the range's numbers -/
def rgArgs : List PV → Option (Int × Int)
  | [.int j] => some (0, j)
  | [.int i, .int j] => some (i, j)
  | _ => none
def rgFit (a b : Int) : Prop := -(2 ^ 62) ≤ a ∧ a < 2 ^ 62 ∧ -(2 ^ 62) ≤ b ∧ b < 2 ^ 62 ∧ (b - a).toNat ≤ 2 ^ 24
instance (a b : Int) : Decidable (rgFit a b) := by unfold rgFit; exact inferInstance
/-- list(range(..)), tuple(range(..)) -/
def rgP (tup cell : Bool) (xs : List PV) (h : VH) : Res PV := match rgArgs xs with
  | some (a, b) => if rgFit a b then (if tup then .ok (.tup (rngL a (b - a).toNat)) h else mkL cell (rngL a (b - a).toNat) h) else .bad
  | none => .bad
theorem rgP_t {cell : Bool} {n : Nat} {h : VH} (hn : n ≤ 1000000) : rgP true cell [.int (n : Int)] h = .ok (.tup (rngL 0 n)) h := by
  unfold rgP rgArgs
  simp only
  rw [if_pos ⟨by omega, by omega, by omega, by omega, by omega⟩]
  simp
theorem rgP_l {cell : Bool} {n : Nat} {h : VH} (hn : n ≤ 1000000) : rgP false cell [.int (n : Int)] h = mkL cell (rngL 0 n) h := by
  unfold rgP rgArgs
  simp only
  rw [if_pos ⟨by omega, by omega, by omega, by omega, by omega⟩]
  simp
theorem rg_run {tup cell : Bool} {xs : List PV} {a b : Int} {g : Gh} {h : VH} {H : Hp} {Q : VK} {E : XK} (ha : rgArgs xs = some (a, b)) (rh : RelH (kx c X) g h H) (q : Post (kx c X) (Rep (kx c X)) g h.length Q E (rgP tup cell xs h)) :
    RgOk a b ∧ ((tup = true → ∀ q, H q = none → Q (.ref q) (upd H q (.tup (rgV a b)))) ∧ (tup = false → ∀ q, H q = none → Q (.ref q) (upd H q (.lst (rgV a b))))) := by
  unfold rgP at q
  rw [ha] at q
  simp only at q
  by_cases z : rgFit a b
  · rw [if_pos z] at q
    refine ⟨z, fun t => ?_, fun t => ?_⟩
    · subst t
      exact tup_new (E := E) rh rgV_reps q
    · subst t
      exact mkL_new (E := E) rh rgV_reps q
  · rw [if_neg z] at q; exact q.elim
def eRg (tup cell : Bool) (ms : AM) : EM := fun σ h => (ms σ h).bind fun xs h1 => rgP tup cell xs h1
theorem eRg_def (tup cell : Bool) (ms : AM) (σ : LS) (h : VH) : eRg tup cell ms σ h = (ms σ h).bind fun xs h1 => rgP tup cell xs h1 := rfl
theorem rgP_nx {tup cell : Bool} {x : PV} {g : Gh} {h : VH} {Q : VK} {E : XK} {K : Kc} {u : V} (rx : Rep K g h.length x u) (q : Post K (Rep K) g h.length Q E (rgP tup cell [x] h)) : ∃ j, x = .int j ∧ u = .int j := by
  cases x with
  | int j => simp only [Rep] at rx; exact ⟨j, rfl, rx⟩
  | _ => exact q.elim
theorem rgP_nx2 {tup cell : Bool} {x y : PV} {g : Gh} {h : VH} {Q : VK} {E : XK} {K : Kc} {u v : V} (rx : Rep K g h.length x u) (ry : Rep K g h.length y v) (q : Post K (Rep K) g h.length Q E (rgP tup cell [x, y] h)) : ∃ i j, x = .int i ∧ u = .int i ∧ y = .int j ∧ v = .int j := by
  cases x with
  | int i =>
    cases y with
    | int j => simp only [Rep] at rx ry; exact ⟨i, j, rfl, rx, rfl, ry⟩
    | _ => exact q.elim
  | _ => exact q.elim
theorem rg1_go {tup cell : Bool} {t : TE} {g : Gh} {σ : LS} {h : VH} {τ : L2.St} {H : Hp} {Q : VK} {R : Int → Int → Hp → Prop}
    (s : ∀ g σ h τ H Q, RelS (kx c X) g h.length σ τ → RelH (kx c X) g h H → Post (kx c X) (Rep (kx c X)) g h.length Q (at_ W τ) (m σ h) → t τ H Q)
    (hk : ∀ a b xs g1 (h1 : VH) H1, rgArgs xs = some (a, b) → RelH (kx c X) g1 h1 H1 → Post (kx c X) (Rep (kx c X)) g1 h1.length Q (at_ W τ) (rgP tup cell xs h1) → R a b H1)
    (rs : RelS (kx c X) g h.length σ τ) (rh : RelH (kx c X) g h H) (q : Post (kx c X) (Rep (kx c X)) g h.length Q (at_ W τ) (eRg tup cell (aCons m aNil) σ h)) : tRg1 t τ H R := by
  have e : eRg tup cell (aCons m aNil) σ h = (m σ h).bind fun x h1 => rgP tup cell [x] h1 := by
    simp only [eRg_def, aCons_def, aNil_def]
    cases m σ h <;> rfl
  rw [e] at q
  refine s g σ h τ H _ rs rh ((Post.bind q).imp (fun u H1 ⟨g1, x, h1, m1, q1⟩ => ?_) fun _ _ _ z => z)
  obtain ⟨j, rfl, eu⟩ := rgP_nx m1.rep q1
  exact ⟨j, eu, hk _ _ _ _ _ _ rfl m1.rel q1⟩
theorem rg2_go {tup cell : Bool} {t t2 : TE} {g : Gh} {σ : LS} {h : VH} {τ : L2.St} {H : Hp} {Q : VK} {R : Int → Int → Hp → Prop}
    (s : ∀ g σ h τ H Q, RelS (kx c X) g h.length σ τ → RelH (kx c X) g h H → Post (kx c X) (Rep (kx c X)) g h.length Q (at_ W τ) (m σ h) → t τ H Q)
    (s2 : ∀ g σ h τ H Q, RelS (kx c X) g h.length σ τ → RelH (kx c X) g h H → Post (kx c X) (Rep (kx c X)) g h.length Q (at_ W τ) (m2 σ h) → t2 τ H Q)
    (hk : ∀ a b xs g1 (h1 : VH) H1, rgArgs xs = some (a, b) → RelH (kx c X) g1 h1 H1 → Post (kx c X) (Rep (kx c X)) g1 h1.length Q (at_ W τ) (rgP tup cell xs h1) → R a b H1)
    (rs : RelS (kx c X) g h.length σ τ) (rh : RelH (kx c X) g h H) (q : Post (kx c X) (Rep (kx c X)) g h.length Q (at_ W τ) (eRg tup cell (aCons m (aCons m2 aNil)) σ h)) : tRg2 t t2 τ H R := by
  have e : eRg tup cell (aCons m (aCons m2 aNil)) σ h = (m σ h).bind fun x h1 => (m2 σ h1).bind fun y h2 => rgP tup cell [x, y] h2 := by
    simp only [eRg_def, aCons_def, aNil_def]
    cases m σ h with
    | ok a h1 => simp only [Res.bind_ok]; cases m2 σ h1 <;> rfl
    | _ => rfl
  rw [e] at q
  refine s g σ h τ H _ rs rh ((Post.bind q).imp (fun u H1 ⟨g1, x, h1, m1, q1⟩ => ?_) fun _ _ _ z => z)
  refine s2 g1 σ h1 τ H1 _ (rs.mono m1.le m1.len) m1.rel ((Post.bind q1).imp (fun v H2 ⟨g2, y, h2, mm2, q2⟩ => ?_) fun _ _ _ z => z)
  obtain ⟨i, j, rfl, eu, rfl, ev⟩ := rgP_nx2 (m1.rep.mono mm2.le mm2.len) mm2.rep q2
  exact ⟨i, j, eu, ev, hk _ _ _ _ _ _ rfl mm2.rel q2⟩
variable {pos' : Pos}
theorem SE.tupRg1 (hc : X.calm = true) (hg : Gl X "tuple") (hm : X.mg "tuple" = none) (hg2 : Gl X "range") (hm2 : X.mg "range" = none) (he : SE c X W e m)
    (na : starEach [e] X.env = (false, eval e X.env) :: starEach [] X.env := by rfl) (nb : starEach [Expr.Call (.Name "range" p2) [e] [] pos] X.env = (false, eval (Expr.Call (.Name "range" p2) [e] [] pos) X.env) :: starEach [] X.env := by rfl) :
    SE c X W (.Call (.Name "tuple" p) [.Call (.Name "range" p2) [e] [] pos] [] pos') (eRg true false (aCons m aNil)) := by
  obtain ⟨t, pe, s⟩ := he
  exact ⟨_, pe_tupRg hc hg hm (prg_1 hg2 hm2 pe na) nb, fun g σ h τ H Q rs rh q => rg1_go (tup := true) (cell := false) s (fun a b xs g1 h1 H1 ea rh1 q1 => by have r := rg_run ea rh1 q1; exact ⟨r.1, r.2.1 rfl⟩) rs rh q⟩
theorem SE.lstRg1 (cell : Bool) (hc : X.calm = true) (hg : Gl X "list") (hm : X.mg "list" = none) (hg2 : Gl X "range") (hm2 : X.mg "range" = none) (he : SE c X W e m)
    (na : starEach [e] X.env = (false, eval e X.env) :: starEach [] X.env := by rfl) (nb : starEach [Expr.Call (.Name "range" p2) [e] [] pos] X.env = (false, eval (Expr.Call (.Name "range" p2) [e] [] pos) X.env) :: starEach [] X.env := by rfl) :
    SE c X W (.Call (.Name "list" p) [.Call (.Name "range" p2) [e] [] pos] [] pos') (eRg false cell (aCons m aNil)) := by
  obtain ⟨t, pe, s⟩ := he
  exact ⟨_, pe_listRg hc hg hm (prg_1 hg2 hm2 pe na) nb, fun g σ h τ H Q rs rh q => rg1_go (tup := false) (cell := cell) s (fun a b xs g1 h1 H1 ea rh1 q1 => by have r := rg_run ea rh1 q1; exact ⟨r.1, r.2.2 rfl⟩) rs rh q⟩
theorem SE.tupRg2 (hc : X.calm = true) (hg : Gl X "tuple") (hm : X.mg "tuple" = none) (hg2 : Gl X "range") (hm2 : X.mg "range" = none) (he : SE c X W e m) (he2 : SE c X W e2 m2)
    (na : starEach [e, e2] X.env = (false, eval e X.env) :: starEach [e2] X.env := by rfl) (na2 : starEach [e2] X.env = (false, eval e2 X.env) :: starEach [] X.env := by rfl) (np : (backTo pos (starEach [e2] X.env)).any (·.1) = false := by rfl)
    (nb : starEach [Expr.Call (.Name "range" p2) [e, e2] [] pos] X.env = (false, eval (Expr.Call (.Name "range" p2) [e, e2] [] pos) X.env) :: starEach [] X.env := by rfl) :
    SE c X W (.Call (.Name "tuple" p) [.Call (.Name "range" p2) [e, e2] [] pos] [] pos') (eRg true false (aCons m (aCons m2 aNil))) := by
  obtain ⟨t, pe, s⟩ := he
  obtain ⟨t2, pe2, s2⟩ := he2
  exact ⟨_, pe_tupRg hc hg hm (prg_2 hg2 hm2 pe pe2 na na2 np) nb, fun g σ h τ H Q rs rh q => rg2_go (tup := true) (cell := false) s s2 (fun a b xs g1 h1 H1 ea rh1 q1 => by have r := rg_run ea rh1 q1; exact ⟨r.1, r.2.1 rfl⟩) rs rh q⟩
theorem SE.lstRg2 (cell : Bool) (hc : X.calm = true) (hg : Gl X "list") (hm : X.mg "list" = none) (hg2 : Gl X "range") (hm2 : X.mg "range" = none) (he : SE c X W e m) (he2 : SE c X W e2 m2)
    (na : starEach [e, e2] X.env = (false, eval e X.env) :: starEach [e2] X.env := by rfl) (na2 : starEach [e2] X.env = (false, eval e2 X.env) :: starEach [] X.env := by rfl) (np : (backTo pos (starEach [e2] X.env)).any (·.1) = false := by rfl)
    (nb : starEach [Expr.Call (.Name "range" p2) [e, e2] [] pos] X.env = (false, eval (Expr.Call (.Name "range" p2) [e, e2] [] pos) X.env) :: starEach [] X.env := by rfl) :
    SE c X W (.Call (.Name "list" p) [.Call (.Name "range" p2) [e, e2] [] pos] [] pos') (eRg false cell (aCons m (aCons m2 aNil))) := by
  obtain ⟨t, pe, s⟩ := he
  obtain ⟨t2, pe2, s2⟩ := he2
  exact ⟨_, pe_listRg hc hg hm (prg_2 hg2 hm2 pe pe2 na na2 np) nb, fun g σ h τ H Q rs rh q => rg2_go (tup := false) (cell := cell) s s2 (fun a b xs g1 h1 H1 ea rh1 q1 => by have r := rg_run ea rh1 q1; exact ⟨r.1, r.2.2 rfl⟩) rs rh q⟩
end
end Pm
namespace Pm
open PySem PySem.Spec L2 PyProof.Rows
/-! ### dicts: what stands for a key -/
section
variable {κ : Type} [DecidableEq κ]
def dVal (key : PV → Option κ) (kvs : List (PV × PV)) (k : κ) : Option PV := (kvs.find? fun p => decide (key p.1 = some k)).map (·.2)
def dPut (key : PV → Option κ) (kvs : List (PV × PV)) (k : κ) (y v : PV) : List (PV × PV) :=
  if (kvs.any fun p => decide (key p.1 = some k)) = true then kvs.map (fun p => if key p.1 = some k then (p.1, v) else p) else kvs ++ [(y, v)]
variable {K : Kc} {g : Gh} {n : Nat} {key : PV → Option κ}
theorem RepD.val {k : κ} : ∀ {kvs : List (PV × PV)} {us : List (κ × V)}, RepD K g n key kvs us → (∀ x, dVal key kvs k = some x → ∃ u, valV us k = some u ∧ Rep K g n x u) ∧ (dVal key kvs k = none → valV us k = none)
  | [], _, h => by simp only [RepD] at h; subst h; exact ⟨(fun _ z => nomatch z), fun _ => rfl⟩
  | (y, x) :: xs, _, h => by
    simp only [RepD] at h
    obtain ⟨k', u, r, rfl, ek, a, b⟩ := h
    have ih := RepD.val (k := k) b
    by_cases e : k' = k
    · subst e
      have e1 : dVal key ((y, x) :: xs) k' = some x := by simp [dVal, List.find?_cons, ek]
      rw [e1, valV_pos (p := (k', u)) rfl]
      exact ⟨fun z q => by cases q; exact ⟨u, rfl, a⟩, fun z => nomatch z⟩
    · have e1 : dVal key ((y, x) :: xs) k = dVal key xs k := by
        have : ¬ key y = some k := by rw [ek]; intro z; exact e (Option.some.inj z)
        simp [dVal, List.find?_cons, this]
      rw [e1, valV_neg (p := (k', u)) e]
      exact ih
theorem RepD.any {k : κ} : ∀ {kvs : List (PV × PV)} {us : List (κ × V)}, RepD K g n key kvs us → (kvs.any fun p => decide (key p.1 = some k)) = us.any fun p => decide (p.1 = k)
  | [], _, h => by simp only [RepD] at h; subst h; rfl
  | (y, x) :: xs, _, h => by
    simp only [RepD] at h
    obtain ⟨k', u, r, rfl, ek, a, b⟩ := h
    simp only [List.any_cons, RepD.any b, ek, Option.some.injEq]
theorem RepD.putIn {k : κ} {v : PV} {w : V} (rv : Rep K g n v w) : ∀ {kvs : List (PV × PV)} {us : List (κ × V)}, RepD K g n key kvs us → RepD K g n key (kvs.map fun p => if key p.1 = some k then (p.1, v) else p) (us.map fun p => if p.1 = k then (p.1, w) else p)
  | [], _, h => by simp only [RepD] at h; subst h; simp [RepD]
  | (y, x) :: xs, _, h => by
    simp only [RepD] at h
    obtain ⟨k', u, r, rfl, ek, a, b⟩ := h
    simp only [List.map_cons]
    by_cases e : k' = k
    · subst e
      rw [if_pos ek, if_pos rfl]
      exact ⟨_, _, _, rfl, ek, rv, RepD.putIn rv b⟩
    · rw [if_neg (by rw [ek]; intro z; exact e (Option.some.inj z)), if_neg e]
      exact ⟨_, _, _, rfl, ek, a, RepD.putIn rv b⟩
theorem RepD.snoc {y v : PV} {k : κ} {w : V} (ek : key y = some k) (rv : Rep K g n v w) : ∀ {kvs : List (PV × PV)} {us : List (κ × V)}, RepD K g n key kvs us → RepD K g n key (kvs ++ [(y, v)]) (us ++ [(k, w)])
  | [], _, h => by simp only [RepD] at h; subst h; exact ⟨k, w, [], rfl, ek, rv, rfl⟩
  | (z, x) :: xs, _, h => by
    simp only [RepD] at h
    obtain ⟨k', u, r, rfl, ek', a, b⟩ := h
    exact ⟨k', u, _, rfl, ek', a, RepD.snoc ek rv b⟩
theorem RepD.put {y v : PV} {k : κ} {w : V} (ek : key y = some k) (rv : Rep K g n v w) {kvs : List (PV × PV)} {us : List (κ × V)} (r : RepD K g n key kvs us) : RepD K g n key (dPut key kvs k y v) (putK us k w) := by
  unfold dPut putK
  rw [RepD.any r]
  split
  · exact RepD.putIn rv r
  · exact RepD.snoc ek rv r
end
def dicOf (x : PV) (h : VH) : Option (Nat × Bool × List (PV × PV)) := match x with
  | .ref i => match h[i]? with
    | some (.dic t kvs) => some (i, t, kvs)
    | _ => none
  | _ => none
theorem dicOf_ref {i : Nat} {t : Bool} {kvs : List (PV × PV)} {h : VH} (e : h[i]? = some (.dic t kvs)) : dicOf (.ref i) h = some (i, t, kvs) := by simp [dicOf, e]
/-- what a look-up finds, if it may be asked for -/
def dgetO (x y : PV) (h : VH) : Option (Option PV) := match dicOf x h with
  | some (_, false, kvs) => (pK y).map (dVal pK kvs)
  | some (_, true, kvs) => (pT y).map (dVal pT kvs)
  | none => none
theorem dgetO_k {i : Nat} {kvs : List (PV × PV)} {y : PV} {k : Key} {h : VH} (e : h[i]? = some (.dic false kvs)) (ek : pK y = some k) : dgetO (.ref i) y h = some (dVal pK kvs k) := by simp [dgetO, dicOf_ref e, ek]
theorem dgetO_t {i : Nat} {kvs : List (PV × PV)} {y : PV} {k : List Key} {h : VH} (e : h[i]? = some (.dic true kvs)) (ek : pT y = some k) : dgetO (.ref i) y h = some (dVal pT kvs k) := by simp [dgetO, dicOf_ref e, ek]
section
variable {K : Kc} {g : Gh} {h : VH} {H : Hp}
theorem pK_run {n : Nat} {y : PV} {v : V} {k : Key} (r : Rep K g n y v) (e : pK y = some k) : v = kV k := by
  cases y with
  | int i => simp only [Rep] at r; cases e; exact r
  | str i => simp only [Rep] at r; cases e; exact r
  | _ => cases e
theorem pKs_run {n : Nat} : ∀ {xs : List PV} {us : List V} {ks : List Key}, Reps K g n xs us → pKs xs = some ks → us = ks.map kV
  | [], _, ks, r, e => by simp only [Reps] at r; subst r; cases e; rfl
  | x :: xs, _, ks, r, e => by
    simp only [Reps] at r
    obtain ⟨u, us, rfl, a, b⟩ := r
    unfold pKs at e
    cases e1 : pK x with
    | none => rw [e1] at e; cases e
    | some k =>
      cases e2 : pKs xs with
      | none => rw [e1, e2] at e; cases e
      | some ks' =>
        rw [e1, e2] at e
        cases e
        rw [pK_run a e1, pKs_run b e2]; rfl
theorem pT_run {n : Nat} {y : PV} {v : V} {ks : List Key} (r : Rep K g n y v) (rh : Same g.Hf H) (e : pT y = some ks) : ∃ b, v = .ref b ∧ H b = some (.tup (ks.map kV)) := by
  cases y with
  | tup xs =>
    simp only [Rep] at r
    obtain ⟨a, us, rfl, s, r⟩ := r
    have := pKs_run r e
    subst this
    exact ⟨a, rfl, rh _ _ s⟩
  | _ => cases e
theorem dicOf_run {x : PV} {u : V} {i : Nat} {t : Bool} {kvs : List (PV × PV)} (rx : Rep K g h.length x u) (rh : RelH K g h H) (e : dicOf x h = some (i, t, kvs)) :
    x = .ref i ∧ h[i]? = some (.dic t kvs) ∧ u = .ref (g.ρ i) ∧ ∃ o, H (g.ρ i) = some o ∧ RepO K g h.length (.dic t kvs) o := by
  unfold dicOf at e
  split at e
  · split at e
    · rename_i j t' kvs' e2
      cases e
      simp only [Rep] at rx
      obtain ⟨o, ho, ro⟩ := rh.cell _ _ e2 (by intro z; cases z)
      exact ⟨rfl, e2, rx.2, o, ho, ro⟩
    · cases e
  · cases e
theorem dget_run {x y : PV} {u v : V} {o : Option PV} (rx : Rep K g h.length x u) (ry : Rep K g h.length y v) (rh : RelH K g h H) (e : dgetO x y h = some o) :
    ∃ a o', u = .ref a ∧ DGet H a v o' ∧ (∀ z, o = some z → ∃ w, o' = some w ∧ Rep K g h.length z w) ∧ (o = none → o' = none) := by
  unfold dgetO at e
  split at e
  · rename_i i kvs e0
    obtain ⟨rfl, e1, rfl, ob, hb, ro⟩ := dicOf_run rx rh e0
    obtain ⟨us, rfl, rd⟩ := ro
    cases ek : pK y with
    | none => rw [ek] at e; cases e
    | some k =>
      rw [ek] at e
      cases e
      rw [pK_run ry ek]
      exact ⟨_, _, rfl, DGet.k hb, (RepD.val rd).1, (RepD.val rd).2⟩
  · rename_i i kvs e0
    obtain ⟨rfl, e1, rfl, ob, hb, ro⟩ := dicOf_run rx rh e0
    obtain ⟨us, rfl, rd⟩ := ro
    cases ek : pT y with
    | none => rw [ek] at e; cases e
    | some k =>
      rw [ek] at e
      cases e
      obtain ⟨b, rfl, eb⟩ := pT_run ry rh.same ek
      exact ⟨_, _, rfl, DGet.t hb eb, (RepD.val rd).1, (RepD.val rd).2⟩
  · cases e
end
def dgetP (x y : PV) (h : VH) : Res PV := match dgetO x y h with
  | some (some v) => .ok v h
  | _ => .bad
def dinP (neg : Bool) (y x : PV) (h : VH) : Res PV := match dgetO x y h with
  | some o => .ok (.bl (if neg then !o.isSome else o.isSome)) h
  | none => .bad
theorem dgetP_ok {x y v : PV} {h : VH} (e : dgetO x y h = some (some v)) : dgetP x y h = .ok v h := by simp [dgetP, e]
theorem dinP_ok {neg : Bool} {x y : PV} {o : Option PV} {h : VH} (e : dgetO x y h = some o) : dinP neg y x h = .ok (.bl (if neg then !o.isSome else o.isSome)) h := by simp [dinP, e]
/-- d[y] = v -/
def dputP (x y v : PV) (h : VH) : Res Unit := match dicOf x h with
  | some (i, false, kvs) => match pK y with
    | some k => if kvs.length < 16777216 then .ok () (h.set i (.dic false (dPut pK kvs k y v))) else .bad
    | none => .bad
  | some (i, true, kvs) => match pT y with
    | some k => if kvs.length < 16777216 then .ok () (h.set i (.dic true (dPut pT kvs k y v))) else .bad
    | none => .bad
  | none => .bad
theorem dputP_k {i : Nat} {kvs : List (PV × PV)} {y v : PV} {k : Key} {h : VH} (e : h[i]? = some (.dic false kvs)) (ek : pK y = some k) (z : kvs.length < 16777216) : dputP (.ref i) y v h = .ok () (h.set i (.dic false (dPut pK kvs k y v))) := by
  simp [dputP, dicOf_ref e, ek, z]
theorem dputP_t {i : Nat} {kvs : List (PV × PV)} {y v : PV} {k : List Key} {h : VH} (e : h[i]? = some (.dic true kvs)) (ek : pT y = some k) (z : kvs.length < 16777216) : dputP (.ref i) y v h = .ok () (h.set i (.dic true (dPut pT kvs k y v))) := by
  simp [dputP, dicOf_ref e, ek, z]
section
variable {c : Ck} {X : Cx} {W : WX} {pos pos' : Pos} {o i e value : Expr} {md mk mv mz : EM}
theorem un2 {k : Nat} {A : Around} (h : L2.Room k A) : A.units + 1 < cLine := by have := h.un; omega
theorem SE.dget (hu : X.A.units + 1 < cLine) (ho : SE c X W o md) (hi : SE c X W i mk) (hs : NoSl i := by intro _ _; rfl) : SE c X W (.Subscript o i pos) (eBin dgetP md mk) := by
  obtain ⟨td, pd, sd⟩ := ho
  obtain ⟨tk, pk, sk⟩ := hi
  refine ⟨_, pe_dget hu pd pk hs, fun g σ h τ H Q rs rh q => ?_⟩
  refine two_run sd sk rs rh q fun g h H x y u v rx ry rh p => ?_
  unfold dgetP at p
  split at p
  · rename_i z ez
    obtain ⟨a, o', rfl, dg, f1, _⟩ := dget_run rx ry rh ez
    obtain ⟨w, rfl, rw'⟩ := f1 z rfl
    exact ⟨a, w, rfl, dg, p g w H (Gh.le.refl _ _) (Nat.le_refl _) rh rw'⟩
  · exact p.elim
theorem SE.din (hu : X.A.units + 1 < cLine) (hi : SE c X W i mk) (ho : SE c X W o md) (hm : behindInMarks .In o = false) : SE c X W (.Compare i [.In] [o] pos) (eBin (dinP false) mk md) := by
  obtain ⟨td, pd, sd⟩ := ho
  obtain ⟨tk, pk, sk⟩ := hi
  refine ⟨_, pe_cmp (pc_din hu pk pd) hm, fun g σ h τ H Q rs rh q => ?_⟩
  refine two_run sk sd rs rh q fun g h H y x v u ry rx rh p => ?_
  unfold dinP at p
  split at p
  · rename_i z ez
    obtain ⟨a, o', rfl, dg, f1, f2⟩ := dget_run rx ry rh ez
    refine ⟨a, o', rfl, dg, ?_⟩
    have : o'.isSome = z.isSome := by
      cases z with
      | none => rw [f2 rfl]; rfl
      | some z => obtain ⟨w, rfl, _⟩ := f1 z rfl; rfl
    rw [this]
    exact p g _ H (Gh.le.refl _ _) (Nat.le_refl _) rh (by simp only [Rep]; simp)
  · exact p.elim
theorem SE.dnin (hu : X.A.units + 1 < cLine) (hi : SE c X W i mk) (ho : SE c X W o md) (hm : behindInMarks .NotIn o = false) : SE c X W (.Compare i [.NotIn] [o] pos) (eBin (dinP true) mk md) := by
  obtain ⟨td, pd, sd⟩ := ho
  obtain ⟨tk, pk, sk⟩ := hi
  refine ⟨_, pe_cmp (pc_dnotin hu pk pd) hm, fun g σ h τ H Q rs rh q => ?_⟩
  refine two_run sk sd rs rh q fun g h H y x v u ry rx rh p => ?_
  unfold dinP at p
  split at p
  · rename_i z ez
    obtain ⟨a, o', rfl, dg, f1, f2⟩ := dget_run rx ry rh ez
    refine ⟨a, o', rfl, dg, ?_⟩
    have : o'.isSome = z.isSome := by
      cases z with
      | none => rw [f2 rfl]; rfl
      | some z => obtain ⟨w, rfl, _⟩ := f1 z rfl; rfl
    rw [this]
    exact p g _ H (Gh.le.refl _ _) (Nat.le_refl _) rh (by simp only [Rep]; simp)
  · exact p.elim
theorem asB_two {R : V → V → Hp → Prop} {g : Gh} {h : VH} {Q : Bool → Hp → Prop} {E : XK} {r : Res PV} (p : Post (kx c X) RepB g h.length Q E (r.bind asB)) : Post (kx c X) (Rep (kx c X)) g h.length (fun x H' => ∃ k, x = .bl k ∧ Q k H') E r := by
  exact (Post.bind p).imp (fun u H1 ⟨g1, x, h1, m1, p1⟩ => asB_run m1.rep m1.rel p1) fun _ _ _ z => z
theorem ST.din (hu : X.A.units + 1 < cLine) (hi : SE c X W i mk) (ho : SE c X W o md) (hm : behindInMarks .In o = false) : ST c X W (.Compare i [.In] [o] pos) (tVal (eBin (dinP false) mk md)) := by
  obtain ⟨td, pd, sd⟩ := ho
  obtain ⟨tk, pk, sk⟩ := hi
  refine ⟨_, pt_cmp (pc_din hu pk pd) hm, fun g σ h τ H Q rs rh q => ?_⟩
  refine two_run (Q := fun x H' => ∃ k, x = .bl k ∧ Q k H') sk sd rs rh ((Post.bind q).imp (fun u H1 ⟨g1, x, h1, m1, p1⟩ => asB_run m1.rep m1.rel p1) fun _ _ _ z => z) fun g h H y x v u ry rx rh p => ?_
  unfold dinP at p
  split at p
  · rename_i z ez
    obtain ⟨a, o', rfl, dg, f1, f2⟩ := dget_run rx ry rh ez
    refine ⟨a, o', rfl, dg, ?_⟩
    have : o'.isSome = z.isSome := by
      cases z with
      | none => rw [f2 rfl]; rfl
      | some z => obtain ⟨w, rfl, _⟩ := f1 z rfl; rfl
    rw [this]
    exact p g _ H (Gh.le.refl _ _) (Nat.le_refl _) rh (by simp only [Rep]; simp)
  · exact p.elim
theorem ST.dnin (hu : X.A.units + 1 < cLine) (hi : SE c X W i mk) (ho : SE c X W o md) (hm : behindInMarks .NotIn o = false) : ST c X W (.Compare i [.NotIn] [o] pos) (tVal (eBin (dinP true) mk md)) := by
  obtain ⟨td, pd, sd⟩ := ho
  obtain ⟨tk, pk, sk⟩ := hi
  refine ⟨_, pt_cmp (pc_dnotin hu pk pd) hm, fun g σ h τ H Q rs rh q => ?_⟩
  refine two_run (Q := fun x H' => ∃ k, x = .bl k ∧ Q k H') sk sd rs rh ((Post.bind q).imp (fun u H1 ⟨g1, x, h1, m1, p1⟩ => asB_run m1.rep m1.rel p1) fun _ _ _ z => z) fun g h H y x v u ry rx rh p => ?_
  unfold dinP at p
  split at p
  · rename_i z ez
    obtain ⟨a, o', rfl, dg, f1, f2⟩ := dget_run rx ry rh ez
    refine ⟨a, o', rfl, dg, ?_⟩
    have : o'.isSome = z.isSome := by
      cases z with
      | none => rw [f2 rfl]; rfl
      | some z => obtain ⟨w, rfl, _⟩ := f1 z rfl; rfl
    rw [this]
    exact p g _ H (Gh.le.refl _ _) (Nat.le_refl _) rh (by simp only [Rep]; simp)
  · exact p.elim
/-- d.get(y, z) -/
def dget2P (x y z : PV) (h : VH) : Res PV := match dgetO x y h with
  | some o => .ok (o.getD z) h
  | none => .bad
def eDGet2 (md mk mz : EM) : EM := fun σ h => (md σ h).bind fun x h1 => match dicOf x h1 with
  | some _ => (mk σ h1).bind fun y h2 => (mz σ h2).bind fun z h3 => dget2P x y z h3
  | none => .bad
theorem SE.dget2 {f : Expr} {apos cpos : Pos} (hu : X.A.units + 1 < cLine) (ho : SE c X W o md) (hi : SE c X W i mk) (hz : SE c X W f mz) (m : M2 X o "get" apos i f cpos) : SE c X W (.Call (.Attribute o "get" apos) [i, f] [] cpos) (eDGet2 md mk mz) := by
  obtain ⟨td, pd, sd⟩ := ho
  obtain ⟨tk, pk, sk⟩ := hi
  obtain ⟨tz, pz, sz⟩ := hz
  refine ⟨_, pe_dget2 hu pd pk pz m, fun g σ h τ H Q rs rh q => ?_⟩
  refine sd g σ h τ H _ rs rh ((Post.bind q).imp (fun u H1 ⟨g1, x, h1, m1, q1⟩ => ?_) fun _ _ _ z => z)
  split at q1
  · rename_i dd e0
    obtain ⟨i0, t0, kvs0⟩ := dd
    obtain ⟨rfl, e1, rfl, ob, hb, ro⟩ := dicOf_run m1.rep m1.rel e0
    refine ⟨_, rfl, ?_, ?_⟩
    · cases t0 with
      | false => obtain ⟨us, rfl, _⟩ := ro; exact .inl ⟨us, .inl hb⟩
      | true => obtain ⟨us, rfl, _⟩ := ro; exact .inr ⟨us, .inl hb⟩
    · refine sk g1 σ h1 τ H1 _ (rs.mono m1.le m1.len) m1.rel ((Post.bind q1).imp (fun v H2 ⟨g2, y, h2, m2, q2⟩ => ?_) fun _ _ _ z => z)
      refine sz g2 σ h2 τ H2 _ (rs.mono (m1.le.trans m2.le m1.len) (Nat.le_trans m1.len m2.len)) m2.rel ((Post.bind q2).imp (fun w H3 ⟨g3, z, h3, m3, q3⟩ => ?_) fun _ _ _ z => z)
      unfold dget2P at q3
      split at q3
      · rename_i oo ez
        have rx : Rep (kx c X) g3 h3.length (.ref i0) (.ref (g1.ρ i0)) := m1.rep.mono (m2.le.trans m3.le m2.len) (Nat.le_trans m2.len m3.len)
        obtain ⟨a, o', ea, dg, f1, f2⟩ := dget_run rx (m2.rep.mono m3.le m3.len) m3.rel ez
        cases ea
        refine ⟨o', dg, ?_⟩
        cases oo with
        | none => rw [f2 rfl]; exact q3 g3 _ H3 (Gh.le.refl _ _) (Nat.le_refl _) m3.rel m3.rep
        | some zz => obtain ⟨w', rfl, rw'⟩ := f1 zz rfl; exact q3 g3 _ H3 (Gh.le.refl _ _) (Nat.le_refl _) m3.rel rw'
      · exact q3.elim
  · exact q1.elim
/-- d[y] = v, the statement -/
def sDPutM (md mk mv : EM) : SM := fun σ h => (mv σ h).then σ fun v h1 => (md σ h1).then σ fun x h2 => (mk σ h2).then σ fun y h3 => match dputP x y v h3 with
  | .ok _ h4 => .nx σ h4
  | _ => .bad
theorem S1.dput (hu : X.A.units + 1 < cLine) (ho : SE c X W o md) (hi : SE c X W i mk) (hv : SE c X W value mv) (hs : swapsWith value (some (.Subscript o i pos')) pos.line X.env = pure false := by rfl) : S1 c X W (.Assign [.Subscript o i pos'] value pos) (sDPutM md mk mv) := by
  obtain ⟨td, pd, sd⟩ := ho
  obtain ⟨tk, pk, sk⟩ := hi
  obtain ⟨tv, pv, sv⟩ := hv
  refine ⟨_, ps_dput hu pd pk pv hs, fun g σ h τ H D rs rh q => ?_⟩
  refine sv g σ h τ H _ rs rh ((PostS.then rs q).imp (fun w H1 ⟨g1, v, h1, m1, q1⟩ => ?_) fun _ _ _ z => z)
  have rs1 := rs.mono m1.le m1.len
  refine sd g1 σ h1 τ H1 _ rs1 m1.rel ((PostS.then rs1 q1).imp (fun u H2 ⟨g2, x, h2, m2, q2⟩ => ?_) fun _ _ _ z => z)
  have rs2 := rs1.mono m2.le m2.len
  refine sk g2 σ h2 τ H2 _ rs2 m2.rel ((PostS.then rs2 q2).imp (fun t H3 ⟨g3, y, h3, m3, q3⟩ => ?_) fun _ _ _ z => z)
  have rs3 := rs2.mono m3.le m3.len
  have rv : Rep (kx c X) g3 h3.length v w := m1.rep.mono (m2.le.trans m3.le m2.len) (Nat.le_trans m2.len m3.len)
  have rx : Rep (kx c X) g3 h3.length x u := m2.rep.mono m3.le m3.len
  unfold dputP at q3
  split at q3
  · rename_i r hh e9
    split at e9
    · rename_i i0 kvs e0
      split at e9
      · rename_i k ek
        split at e9
        · rename_i hl
          obtain ⟨rfl, e1, rfl, ob, hb, ro⟩ := dicOf_run rx m3.rel e0
          obtain ⟨us, rfl, rd⟩ := ro
          cases e9
          have ll : us.length < sizeLine := by rw [rd.length]; exact hl
          refine ⟨_, _, rfl, by rw [pK_run m3.rep ek]; exact DPut.k hb ll, ?_⟩
          exact q3 g3 τ _ (Gh.le.refl _ _) (by simp) (m3.rel.setc e1 (by intro z; cases z) ⟨_, rfl, rd.put ek rv⟩) (rs3.mono (Gh.le.refl _ _) (by simp))
        · cases e9
      · cases e9
    · rename_i i0 kvs e0
      split at e9
      · rename_i k ek
        split at e9
        · rename_i hl
          obtain ⟨rfl, e1, rfl, ob, hb, ro⟩ := dicOf_run rx m3.rel e0
          obtain ⟨us, rfl, rd⟩ := ro
          cases e9
          have ll : us.length < sizeLine := by rw [rd.length]; exact hl
          obtain ⟨b, rfl, eb⟩ := pT_run m3.rep m3.rel.same ek
          refine ⟨_, _, rfl, DPut.t hb eb ll, ?_⟩
          exact q3 g3 τ _ (Gh.le.refl _ _) (by simp) (m3.rel.setc e1 (by intro z; cases z) ⟨_, rfl, rd.put ek rv⟩) (rs3.mono (Gh.le.refl _ _) (by simp))
        · cases e9
      · cases e9
    · cases e9
  · exact q3.elim
/-- {} -/
def eDNew (t : Bool) : EM := fun _ h => .ok (.ref h.length) (h ++ [.dic t []])
theorem new_cell {g : Gh} {h : VH} {H : Hp} {Q : VK} {E : XK} {o : PO} {u : HO} (rh : RelH (kx c X) g h H) (ro : ∀ g n, RepO (kx c X) g n o u) (p : Post (kx c X) (Rep (kx c X)) g h.length Q E (.ok (.ref h.length) (h ++ [o]))) : ∀ q, H q = none → Q (.ref q) (upd H q u) := fun q nq => by
  have sm : Same H (upd H q u) := fun b o e => by rw [upd_ne (ne_of_none e nq)]; exact e
  obtain ⟨le, rh'⟩ := RelH.push (o := o) rh sm nq upd_same (ro _ _)
  refine p _ _ _ le (by simp) rh' ?_
  simp only [Rep]
  simp
theorem SE.dnew : ∀ t : Bool, SE c X W (.Dict [] [] pos) (eDNew t)
  | false => ⟨_, pe_dnewK, fun g σ h τ H Q rs rh q => new_cell (o := .dic false []) (u := .dK []) rh (fun g n => ⟨[], rfl, rfl⟩) q⟩
  | true => ⟨_, pe_dnewT, fun g σ h τ H Q rs rh q => new_cell (o := .dic true []) (u := .dT []) rh (fun g n => ⟨[], rfl, rfl⟩) q⟩
/-- {y: v} -/
def eDOne (mk mv : EM) : EM := fun σ h => (mk σ (h ++ [.dic false []])).bind fun y h1 => (mv σ h1).bind fun v h2 => match h2[h.length]?, pK y with
  | some (.dic false []), some _ => .ok (.ref h.length) (h2.set h.length (.dic false [(y, v)]))
  | _, _ => .bad
theorem SE.done {p1 : Expr} (hi : SE c X W i mk) (hv : SE c X W value mv) : SE c X W (.Dict [some i] [value] pos) (eDOne mk mv) := by
  obtain ⟨tk, pk, sk⟩ := hi
  obtain ⟨tv, pv, sv⟩ := hv
  refine ⟨_, pe_disp (pps_cons pk pv pps_nil) rfl rfl (by simp) (by simp), fun g σ h τ H Q rs rh q => ?_⟩
  intro p np
  have sm : Same H (upd H p (.dK [])) := fun b o e => by rw [upd_ne (ne_of_none e np)]; exact e
  obtain ⟨le, rh'⟩ := RelH.push (o := .dic false []) rh sm np upd_same ⟨[], rfl, rfl⟩
  have ln : h.length ≤ (h ++ [PO.dic false []]).length := by simp
  have q := Post.up q le ln
  have rs0 := rs.mono le ln
  refine sk _ σ _ τ _ _ rs0 rh' ((Post.bind q).imp (fun u H1 ⟨g1, y, h1, m1, q1⟩ => ?_) fun _ _ _ z => z)
  have rs1 := rs0.mono m1.le m1.len
  refine sv g1 σ h1 τ H1 _ rs1 m1.rel ((Post.bind q1).imp (fun w H2 ⟨g2, v, h2, m2, q2⟩ => ?_) fun _ _ _ z => z)
  show H2 p = some (.dK []) ∧ _
  split at q2
  · rename_i k e0 ek
    have lel := m1.le.trans m2.le m1.len
    have lnl := Nat.le_trans m1.len m2.len
    have ep : g2.ρ h.length = p := by rw [lel.rho h.length (by simp)]; simp
    obtain ⟨ob, hb, ro⟩ := m2.rel.cell _ _ e0 (by intro z; cases z)
    obtain ⟨us, rfl, rd⟩ := ro
    simp only [RepD] at rd
    subst rd
    rw [ep] at hb
    refine ⟨hb, [(k, w)], ?_, by simp, ?_⟩
    · have := pK_run (m1.rep.mono m2.le m2.len) ek
      rw [this]; rfl
    · have := q2 g2 (.ref p) (upd H2 p (.dK [(k, w)])) (Gh.le.refl _ _) (by simp) (by
        have := m2.rel.setc (o := .dic false [(y, v)]) (u := .dK [(k, w)]) e0 (by intro z; cases z) ⟨_, rfl, ⟨k, w, [], rfl, ek, m2.rep, rfl⟩⟩
        rwa [ep] at this) (by
        simp only [Rep]
        refine ⟨?_, by rw [ep]⟩
        rw [List.length_set]
        have := lnl; simp at this; omega)
      exact this
  · exact q2.elim
/-- sorted(d), list(d): the keys, numbers all -/
def dkI (x : PV) (h : VH) : Option (List Int) := match dicOf x h with
  | some (_, false, kvs) => intsOf (kvs.map (·.1))
  | _ => none
theorem dkI_ref {i : Nat} {kvs : List (PV × PV)} {ns : List Int} {h : VH} (e : h[i]? = some (.dic false kvs)) (z : kvs.map (·.1) = ns.map PV.int) : dkI (.ref i) h = some ns := by
  simp [dkI, dicOf_ref e, z]
def sortedDP (cell : Bool) (x : PV) (h : VH) : Res PV := match dkI x h with
  | some ns => if ns.length < 64 then mkL cell ((sortI ns).map PV.int) h else .bad
  | none => .bad
theorem sortedDP_ok {cell : Bool} {x : PV} {h : VH} {ns : List Int} (e : dkI x h = some ns) (z : ns.length < 64) : sortedDP cell x h = mkL cell ((sortI ns).map PV.int) h := by simp [sortedDP, e, z]
def listDP (cell : Bool) (x : PV) (h : VH) : Res PV := match dkI x h with
  | some ns => mkL cell (ns.map PV.int) h
  | none => .bad
theorem listDP_ok {cell : Bool} {x : PV} {h : VH} {ns : List Int} (e : dkI x h = some ns) : listDP cell x h = mkL cell (ns.map PV.int) h := by simp [listDP, e]
theorem repD_keys {K : Kc} {g : Gh} {n : Nat} : ∀ {kvs : List (PV × PV)} {us : List (Key × V)} {ns : List Int}, RepD K g n pK kvs us → kvs.map (·.1) = ns.map PV.int → us.map (·.1) = ns.map Sum.inl
  | [], _, ns, r, e => by
    simp only [RepD] at r
    subst r
    cases ns with
    | nil => rfl
    | cons _ _ => cases e
  | (y, x) :: xs, _, ns, r, e => by
    simp only [RepD] at r
    obtain ⟨k', u, r, rfl, ek, a, b⟩ := r
    cases ns with
    | nil => cases e
    | cons i ns =>
      simp only [List.map_cons, List.cons.injEq] at e
      obtain ⟨rfl, e⟩ := e
      cases ek
      simp only [List.map_cons, repD_keys b e]
theorem dkI_run {x : PV} {u : V} {ns : List Int} {g : Gh} {h : VH} {H : Hp} (rx : Rep (kx c X) g h.length x u) (rh : RelH (kx c X) g h H) (e : dkI x h = some ns) : ∃ a us, u = .ref a ∧ H a = some (.dK us) ∧ us.map (·.1) = ns.map Sum.inl := by
  unfold dkI at e
  split at e
  · rename_i i kvs e0
    obtain ⟨rfl, e1, rfl, ob, hb, ro⟩ := dicOf_run rx rh e0
    obtain ⟨us, rfl, rd⟩ := ro
    exact ⟨_, us, rfl, hb, repD_keys rd (intsOf_eq e)⟩
  · cases e
def rSortedDI : List V → Hp → VK → Prop := fun xs H Q => ∃ (a : Addr) (kvs : List (Key × V)) (ks : List Int), xs = [.ref a] ∧ Rd H a (.dK kvs) ∧ kvs.map (·.1) = ks.map Sum.inl ∧ ks.length < 64 ∧
    ∀ (ys : List Int) (p : Addr), ys.Perm ks → ys.Pairwise (· ≤ ·) → H p = none → Q (.ref p) (upd H p (.lst (ys.map V.int)))
theorem cr_sortedDI (hc : X.calm = true) : CallR X (.builtin "sorted") rSortedDI := call_sortedDI hc
theorem sortedDS (cell : Bool) : CallS c X rSortedDI (one (sortedDP cell)) := fun g h H xs us Q E r rh p => by
  obtain ⟨x, u, rfl, rfl, rx, p⟩ := one_run r p
  unfold sortedDP at p
  split at p
  · rename_i ns e
    split at p
    · rename_i z
      obtain ⟨a, us, rfl, hd, ek⟩ := dkI_run rx rh e
      refine ⟨a, us, ns, rfl, .inl hd, ek, z, fun ys q hp hs nq => ?_⟩
      have : ys = sortI ns := sorted_uniq (hp.trans (sortI_perm ns).symm) hs (sortI_le ns)
      rw [this]
      exact mkL_new rh (Reps.ints _) p q nq
    · exact p.elim
  · exact p.elim
def rListDI : List V → Hp → VK → Prop := fun xs H Q => ∃ (a : Addr) (kvs : List (Key × V)), xs = [.ref a] ∧ Rd H a (.dK kvs) ∧ ∀ p, H p = none → Q (.ref p) (upd H p (.lst (kvs.map fun kv => kV kv.1)))
theorem cr_listDI (hc : X.calm = true) : CallR X (.type "list") rListDI := call_listD hc
theorem listDS (cell : Bool) : CallS c X rListDI (one (listDP cell)) := fun g h H xs us Q E r rh p => by
  obtain ⟨x, u, rfl, rfl, rx, p⟩ := one_run r p
  unfold listDP at p
  split at p
  · rename_i ns e
    obtain ⟨a, us, rfl, hd, ek⟩ := dkI_run rx rh e
    refine ⟨a, us, rfl, .inl hd, fun q nq => ?_⟩
    have : (us.map fun kv => kV kv.1) = ns.map V.int := by
      rw [show (us.map fun kv => kV kv.1) = (us.map (·.1)).map kV by rw [List.map_map]; rfl, ek, List.map_map]; rfl
    rw [this]
    exact mkL_new rh (Reps.ints _) p q nq
  · exact p.elim
end
end Pm
namespace Pm
open PySem PySem.Spec L2 PyProof.Rows
/-! ### a def under another name -/
structure Fa (K : PySem.W.Frag) (mg : Str → Option Value) (z x qual : Str) (st : Stmt) (ps : List Str) (f : Addr) (fd : FuncData) : Prop where
  F : Fun K x qual st f fd
  b : Binds K fd ps []
  m : mg z = some (.ref f)
theorem Fa.mk' {K : PySem.W.Frag} {h : Heap} {mg : Str → Option Value} {z x qual : Str} {st : Stmt} {ps : List Str} {f : Addr} {oc : Value} {od an : Option Addr} {osl : Array (Option Value)} {kV doc pm cdv ct : Value} (X : K.In h) (G : h.Ns mainGlobals mg) (a : PySem.W.nsIn K mainGlobals z = some (some (.ref f)))
    (l : K.lookup f = some ⟨oc, od, .func (PySem.W.fnOf x qual (defArgs st) (defBody st) (defScope st) .none kV doc pm an cdv ct), osl⟩)
    (k1 : PySem.W.codeIn K cdv qual = true) (k2 : PySem.W.keepIn K (.ref f) = true)
    (hb : ∀ (kV doc pm : Value) (an : Option Addr) (cdv ct : Value) (us : List Value), us.length = ps.length → bindArgs (PySem.W.fnOf x qual (defArgs st) (defBody st) (defScope st) .none kV doc pm an cdv ct) ⟨us, []⟩ = pure (ps.zip us)) :
    Fa K mg z x qual st ps f (PySem.W.fnOf x qual (defArgs st) (defBody st) (defScope st) .none kV doc pm an cdv ct) := by
  have F := fun_mk (st := st) l k1 k2
  exact ⟨F, F.binds hb, PySem.W.mg_of X G a⟩
/-! ### isinstance(e, (A, B, ..)) in an except suite -/
def rIsDT (K : PySem.W.Frag) (D a dd : Addr) : List V → Hp → VK → Prop := fun xs H Q => ∃ (tp : Addr) (cs : List V) (us : List Value) (b : Bool) (gs : List (Str × V)), xs = [.ref a, .ref tp] ∧ H tp = some (.tup cs) ∧ Paired ClsV cs us ∧ H dd = some (.xd gs) ∧ PySem.W.kitAny K (.ref D) us = some b ∧ Q (.bl b) H
theorem call_isDT {X : Cx} {a D dd : Addr} {oe : Obj} {pn : List (Addr × Obj)} (C : ExcC X.K D) (hz : Zc (.ref D) (some dd) oe) (hf : ∃ vs, oe.data = .fields vs) : CallR (X.suite a ((a, oe) :: pn)) (.builtin "isinstance") (rIsDT X.K D a dd) := by
  intro pins s σ H xs us Q I r h
  obtain ⟨tp, cs, ws, b, gs, rfl, hT, k, hd, e, q⟩ := h
  obtain ⟨u1, u2, rfl, rx, rt⟩ := vals2 r
  cases rx
  cases (show u2 = Value.ref tp from rt)
  obtain ⟨_, its, rv, o, h1, h2, n, h3⟩ := (show ObjOk X.prog X.w H s.heap tp (.tup cs) from I.hok tp _ hT)
  have e3 := ClsV.all k rv
  subst e3
  obtain ⟨oc', od', dt, sl⟩ := o
  simp only at h2 h3
  subst h2 h3
  obtain ⟨hget, _⟩ := I.pin (a, oe) (List.mem_append.mpr (.inl List.mem_cons_self))
  obtain ⟨vs, hv⟩ := hf
  obtain ⟨mA, hns, hr⟩ := (show ObjOk X.prog X.w H s.heap dd (.xd gs) from I.hok dd _ hd)
  obtain ⟨od, ho, hl⟩ := lookIn_ns hns
  have J : PySem.W.InstAt s.heap a oe D (some od) := by
    obtain ⟨oc, odd, oda, osl⟩ := oe
    obtain ⟨h1, h2⟩ := hz
    dsimp only at h1 h2 hv
    subst h1 h2 hv
    exact ⟨hget, rfl, rfl, ho⟩
  exact PySem.W.kia_tup (PySem.W.pm_kitD C) I.kIn J h1 e (fun z => nomatch z) fun tk => ⟨.bl b, H, I.kept (t' := tk) fun _ _ z => z, rfl, q⟩
def atAll (t : Tab) (a : Tk) : List Tk → Option Bool
  | [] => some false
  | T :: Ts => match t.at' a T, atAll t a Ts with
    | some b, some r => some (b || r)
    | _, _ => none
def eIsxT (t : Tab) (e : PX) (i : Nat) (Ts : List Tk) : EM := fun σ h => match σ[i]?, atAll t (.cls e.C) Ts with
  | some (some .exn), some b => .ok (.bl b) h
  | _, _ => .bad
theorem eIsxT_def (t : Tab) (e : PX) (i : Nat) (Ts : List Tk) (σ : LS) (h : VH) : eIsxT t e i Ts σ h = (match σ[i]?, atAll t (.cls e.C) Ts with
  | some (some .exn), some b => .ok (.bl b) h
  | _, _ => .bad) := (rfl)
/-- the classes named -/
def HTs (c : Ck) (X : Cx) (es : List Expr) (Ts : List Tk) : Prop := ∃ (t : TA) (cs : List V), PA X es t ∧ (∀ τ H Q, Q cs H → t τ H Q) ∧ Paired ClsV cs (Ts.map (tkV c))
section
variable {c : Ck} {X : Cx} {W : WX}
theorem hts_nil : HTs c X [] [] := by
  refine ⟨_, [], pa_nil, fun τ H Q q => ?_, .nil⟩
  exact q
theorem hts_cons {e : Expr} {es : List Expr} {T : Tk} {Ts : List Tk} (h : ∃ v, PE X e (tC v) ∧ ClsV v (tkV c T)) (hs : HTs c X es Ts) (hst : starEach (e :: es) X.env = (false, eval e X.env) :: starEach es X.env := by rfl) : HTs c X (e :: es) (T :: Ts) := by
  obtain ⟨v, pv, cv⟩ := h
  obtain ⟨t, cs, pa, k, pr⟩ := hs
  exact ⟨_, v :: cs, pa_cons pv pa hst, fun τ H Q q => k τ H _ q, .cons cv pr⟩
end
section
variable {c : Ck} {X : Cx} {W : WX} {a dd : Addr} {oe : Obj} {pn : List (Addr × Obj)} {e : PX} {x : Str} {p pos q2 : Pos}
theorem SE.isxT {t : Tab} {T : Tk} {Ts : List Tk} {tcs : List Expr} {k : Nat} {q1 : Pos} (i : Nat) (XT : XTab c X.K t) (hz : Zc (.ref (c e.C)) (some dd) oe) (hfd : ∃ vs, oe.data = .fields vs) (hg : Gl X "isinstance") (hm : X.mg "isinstance" = none)
    (ht : HTs c (X.suite a ((a, oe) :: pn)) tcs (T :: Ts)) (hN : X.N[i]? = some x := by rfl) (hv : Vis X.env.scope x := by first | exact Or.inl rfl | exact Or.inr (Or.inl rfl) | exact Or.inr (Or.inr rfl)) (hdb : (x == ("__debug__" : Str)) = false := by decide)
    (hcd : (x == ("__classdict__" : Str)) = false := by decide) (h1 : starEach [.Name x p, .Tuple tcs k q2] X.env = (false, eval (.Name x p) X.env) :: starEach [.Tuple tcs k q2] X.env := by rfl) (h2 : starEach [.Tuple tcs k q2] X.env = (false, eval (.Tuple tcs k q2) X.env) :: starEach [] X.env := by rfl) (hpl : (backTo pos (starEach [.Tuple tcs k q2] X.env)).any (·.1) = false := by rfl) (h16 : decide ((T :: Ts).length ≤ 16777216) = true := by decide) :
    SE (c.exc a dd e) (X.suite a ((a, oe) :: pn)) W (.Call (.Name "isinstance" q1) [.Name x p, .Tuple tcs k q2] [] pos) (eIsxT t e i (T :: Ts)) := by
  obtain ⟨tt, cs, pa, kk, pr⟩ := ht
  have all : ∀ (Ts : List Tk) (b : Bool), atAll t (.cls e.C) Ts = some b → PySem.W.kitAny X.K (.ref (c e.C)) (Ts.map (tkV c)) = some b := by
    intro Ts
    induction Ts with
    | nil => intro b h; cases h; rfl
    | cons T Ts ih =>
      intro b h
      unfold atAll at h
      cases h1 : t.at' (.cls e.C) T with
      | none => rw [h1] at h; cases h
      | some b1 =>
        cases h2 : atAll t (.cls e.C) Ts with
        | none => rw [h1, h2] at h; cases h
        | some r =>
          rw [h1, h2] at h
          have h := Option.some.inj h
          subst h
          have k1 := XT.kit _ (Tab.at_mem h1)
          have k2 := ih r h2
          cases b1 with
          | true => exact kitAny_cons k1 (fun z => nomatch z) fun _ => by simp
          | false => exact kitAny_cons k1 (fun _ => by simpa using k2) (fun z => nomatch z)
  cases hk : atAll t (.cls e.C) (T :: Ts) with
  | none =>
    refine ⟨fun _ _ _ => False, ⟨fun _ _ _ _ _ _ z => z.elim⟩, fun g σ h τ H Q rs rh q => ?_⟩
    rw [eIsxT_def, hk] at q
    split at q
    · rename_i z; cases z
    · exact q.elim
  | some b =>
    have C : ExcC X.K (c e.C) := by
      unfold atAll at hk
      cases h1 : t.at' (.cls e.C) T with
      | none => rw [h1] at hk; cases hk
      | some b1 => exact XT.exc _ (Tab.at_mem h1) _ rfl
    have k1 := all _ b hk
    refine ⟨_, pe_callB (X := X.suite a ((a, oe) :: pn)) (call_isDT C hz hfd) hg hm PyProof.Rows.boot_isinstance (pa_cons (pe_var (X := X.suite a ((a, oe) :: pn)) (i := i) hN hv hdb hcd) (pa_cons (pe_tup pa) pa_nil h2) h1) (by decide) (by decide) h1 hpl, fun g σ h τ H Q rs rh q => ?_⟩
    rw [eIsxT_def, hk] at q
    split at q
    · rename_i w e1 e2
      cases e2
      obtain ⟨u, e3, r⟩ := rs.get i .exn e1
      simp only [Rep] at r
      obtain ⟨a', d', e', z, rfl⟩ := r
      cases z
      obtain ⟨gs, hgs, rf⟩ := rh.ex a dd e rfl
      refine ⟨_, e3, kk _ _ _ ⟨?_, fun tp np => ?_⟩⟩
      · have : cs.length = (T :: Ts).length := by rw [Paired.length pr, List.length_map]
        rw [this, sizeLine_eq]; exact of_decide_eq_true h16
      · obtain ⟨le, rh'⟩ := RelH.frz (o := .tup cs) rh np
        have hd : upd H tp (.tup cs) dd = some (.xd gs) := by
          have := rh.same _ _ hgs
          rw [upd_ne (ne_of_none this np)]; exact this
        exact ⟨tp, cs, _, b, gs, rfl, upd_same, pr, hd, k1, q _ _ _ le (Nat.le_refl _) rh' repB⟩
    · exact q.elim
end
end Pm
namespace Pm
open PySem PySem.Spec L2 PyProof.Rows
/-! ### calls with keywords, in the parameters' order -/
structure KBd (K : PySem.W.Frag) (fd : FuncData) (ps : List Str) (n : Nat) (ks : List Str) : Prop where
  to : ∀ (s : Shared) (us ws : List Value), us.length = n → ws.length = ks.length → BindsTo s fd ⟨us, ks.zip ws⟩ (ps.zip (us ++ ws))
section
variable {c : Ck} {X : Cx} {W : WX} {k n : Nat} {f C : Addr} {fd : FuncData} {ps ks : List Str} {m : List PV → VH → Res PV} {x mn : Str} {p pos apos kpos : Pos} {e o : Expr} {es : List Expr} {kws : List Keyword} {ms : AM} {mo me : EM} {nm : Option Str}
theorem run_fnGK {sp : Sp} {E : XK} {pins : List (Addr × Obj)} {τ : L2.St} {H : Hp} {s : Shared} {Q : VK} {us ws : List Value} {vs zs : List V} (F : FnG X.prog X.w X.K X.mg X.base k f fd ps sp) (room : Room k X.A) (gd : X.A.guards = some []) (bi : KBd X.K fd ps n ks)
    (px : PassesAt (L2.CX X.prog X.w) X τ E) (I : Inv X pins τ H s) (r : Vals vs us) (rz : Vals zs ws) (l1 : vs.length = n) (l2 : zs.length = ks.length) (h : sp (vs ++ zs) H Q E) : wpAny (model X.prog X.w) X.A (call (.ref f) us (ks.zip ws)) (EP X pins τ Q) X.xe s := by
  have r2 : Vals (vs ++ zs) (us ++ ws) := Vals.append r rz
  refine wpAny_call (codeAny_mono (F.run X.A X.stack s H ⟨us, ks.zip ws⟩ (us ++ ws) (vs ++ zs) Q E room gd I.env0 (bi.to s us ws (r.length.symm.trans l1) (rz.length.symm.trans l2)) r2 h) fun res s' hq => ?_)
  cases res with
  | error e => exact px pins H s e s' I hq
  | ok fl =>
    cases fl with
    | ret u => exact I.after hq
    | next => exact hq.elim
    | brk => exact hq.elim
    | cont => exact hq.elim
def tCallKW (n m : Nat) (sp : Sp) (E : L2.St → XK) (t tk : TA) : TE := fun τ H Q => t τ H fun vs H1 => tk τ H1 fun zs H2 => vs.length = n ∧ zs.length = m ∧ sp (vs ++ zs) H2 Q (E τ)
theorem pe_callGK {sp : Sp} {E : L2.St → XK} {t tk : TA} (F : FnG X.prog X.w X.K X.mg X.base k f fd ps sp) (room : Room k X.A) (gd : X.A.guards = some []) (hg : Gl X x) (hm : X.mg x = some (.ref f)) (hk : PySem.W.keepIn X.K (.ref f) = true) (bi : KBd X.K fd ps n ks)
    (px : ∀ τ, PassesAt (L2.CX X.prog X.w) X τ (E τ)) (pa : PA X (e :: es) t) (pk : PK X kws tk) (hall : (backToKw pos (keywordEach kws X.env)).all (·.1.isSome) = true) (hks : (backToKw pos (keywordEach kws X.env)).filterMap (·.1) = ks)
    (hdb : (x == ("__debug__" : Str)) = false) (st : starEach (e :: es) X.env = (false, eval e X.env) :: starEach es X.env) (pl : ((backTo pos (starEach (e :: es) X.env)).any (·.1) || (backToKw pos (keywordEach kws X.env)).any (·.1.isNone)) = false) :
    PE X (.Call (.Name x p) (e :: es) kws pos) (tCallKW n ks.length sp E t tk) := by
  refine ⟨fun pins s τ H Q I h => wpAny_Call_Name_kw (ld_glob I hg hm ?_ hdb)⟩
  refine PySem.W.callWith_KW (h₀ := X.base) I.ok.mod.kin hk hall (thn (pa.run pos pins s τ H _ I h) fun us s1 ⟨vs, H1, I1, r, q⟩ => ?_) pl st
  refine thn (pk.run pos pins s1 τ H1 _ I1 q) fun ws s2 ⟨zs, H2, I2, rz, l1, l2, q2⟩ => ⟨I2.kIn, ?_⟩
  rw [hks]
  exact run_fnGK F room gd bi (px τ) I2 r rz l1 l2 q2
theorem pe_callGK0 {sp : Sp} {E : L2.St → XK} {tk : TA} (F : FnG X.prog X.w X.K X.mg X.base k f fd ps sp) (room : Room k X.A) (gd : X.A.guards = some []) (hg : Gl X x) (hm : X.mg x = some (.ref f)) (hk : PySem.W.keepIn X.K (.ref f) = true) (bi : KBd X.K fd ps 0 ks)
    (px : ∀ τ, PassesAt (L2.CX X.prog X.w) X τ (E τ)) (pk : PK X kws tk) (hall : (backToKw pos (keywordEach kws X.env)).all (·.1.isSome) = true) (hks : (backToKw pos (keywordEach kws X.env)).filterMap (·.1) = ks)
    (hdb : (x == ("__debug__" : Str)) = false) (pl : ((backTo pos (starEach [] X.env)).any (·.1) || (backToKw pos (keywordEach kws X.env)).any (·.1.isNone)) = false) :
    PE X (.Call (.Name x p) [] kws pos) (tCallKW 0 ks.length sp E tNil tk) := by
  refine ⟨fun pins s τ H Q I h => wpAny_Call_Name_kw (ld_glob I hg hm ?_ hdb)⟩
  refine PySem.W.callWith_KW0 (h₀ := X.base) I.ok.mod.kin hk hall ?_ pl
  refine thn (pk.run pos pins s τ H _ I h) fun ws s2 ⟨zs, H2, I2, rz, l1, l2, q2⟩ => ⟨I2.kIn, ?_⟩
  rw [hks]
  exact run_fnGK (us := []) (vs := []) F room gd bi (px τ) I2 .nil rz rfl l2 q2
/-- the keywords' values -/
def SKW (c : Ck) (X : Cx) (W : WX) (kws : List Keyword) (ms : AM) : Prop := (∀ σ h xs h', ms σ h = .ok xs h' → xs.length = kws.length) ∧ ∃ tk, PK X kws tk ∧ ∀ g σ h τ H Q, RelS (kx c X) g h.length σ τ → RelH (kx c X) g h H → Post (kx c X) (Reps (kx c X)) g h.length Q (at_ W τ) (ms σ h) → tk τ H Q
theorem SKW.nil : SKW c X W [] aNil := ⟨fun σ h xs h' e => by cases e; rfl, _, pk_nil, fun g σ h τ H Q rs rh p => p g [] H (Gh.le.refl _ _) (Nat.le_refl _) rh Reps.nil⟩
theorem SKW.cons (he : SE c X W e me) (hs : SKW c X W kws ms) : SKW c X W (⟨nm, e, kpos⟩ :: kws) (aCons me ms) := by
  obtain ⟨te, pe, se⟩ := he
  obtain ⟨la, t, pk, sk⟩ := hs
  refine ⟨fun σ h xs h' z => ?_, _, pk_cons pe pk, fun g σ h τ H Q rs rh q => ?_⟩
  · rw [aCons_def] at z
    cases r : me σ h with
    | ok x h1 =>
      rw [r] at z
      simp only [Res.bind_ok] at z
      cases r2 : ms σ h1 with
      | ok ys h2 => rw [r2] at z; cases z; simp [la _ _ _ _ r2]
      | exc _ _ => rw [r2] at z; cases z
      | bad => rw [r2] at z; cases z
    | exc _ _ => rw [r] at z; cases z
    | bad => rw [r] at z; cases z
  · refine se g σ h τ H _ rs rh ((Post.bind q).imp (fun u H1 ⟨g1, x, h1, m1, q1⟩ => ?_) fun _ _ _ z => z)
    refine sk g1 σ h1 τ H1 _ (rs.mono m1.le m1.len) m1.rel ((Post.bind (R := Reps (kx c X)) q1).imp (fun us H2 ⟨g2, ys, h2, m2, q2⟩ => ?_) fun _ _ _ z => z)
    exact q2 g2 (u :: us) H2 (Gh.le.refl _ _) (Nat.le_refl _) m2.rel (Reps.cons (m1.rep.mono m2.le m2.len) m2.rep)
/-- all values of a call -/
def SAK (c : Ck) (X : Cx) (W : WX) (es : List Expr) (kws : List Keyword) (ms : AM) : Prop := (∀ σ h xs h', ms σ h = .ok xs h' → xs.length = es.length + kws.length) ∧ ∃ t tk, (es = [] → t = tNil) ∧ PA X es t ∧ PK X kws tk ∧ ∀ g σ h τ H Q, RelS (kx c X) g h.length σ τ → RelH (kx c X) g h H →
  Post (kx c X) (Reps (kx c X)) g h.length Q (at_ W τ) (ms σ h) → t τ H fun vs H1 => tk τ H1 fun zs H2 => vs.length = es.length ∧ zs.length = kws.length ∧ Q (vs ++ zs) H2
theorem Post.withLen {K : Kc} {g : Gh} {n l : Nat} {Q : List V → Hp → Prop} {E : XK} {r : Res (List PV)} (h : Post K (Reps K) g n Q E r) (hl : ∀ xs h', r = .ok xs h' → xs.length = l) : Post K (Reps K) g n (fun us H => us.length = l ∧ Q us H) E r := by
  cases r with
  | ok xs h' => exact fun g' us H' l' hn rh ru => ⟨by rw [ru.length]; exact hl _ _ rfl, h g' us H' l' hn rh ru⟩
  | exc e h' => exact h
  | bad => exact h
theorem SAK.kw (hs : SKW c X W kws ms) : SAK c X W [] kws ms := by
  obtain ⟨la, tk, pk, sk⟩ := hs
  refine ⟨fun σ h xs h' z => by rw [la σ h xs h' z]; simp, tNil, tk, fun _ => rfl, pa_nil, pk, fun g σ h τ H Q rs rh q => ?_⟩
  show tk τ H fun zs H2 => _
  exact sk g σ h τ H _ rs rh ((Post.withLen q (fun xs h' z => la σ h xs h' z)).imp (fun us H1 ⟨a, b⟩ => ⟨rfl, a, by simpa using b⟩) fun _ _ _ z => z)
theorem SAK.cons (he : SE c X W e me) (hs : SAK c X W es kws ms) (hst : starEach (e :: es) X.env = (false, eval e X.env) :: starEach es X.env := by rfl) : SAK c X W (e :: es) kws (aCons me ms) := by
  obtain ⟨te, pe, se⟩ := he
  obtain ⟨la, t, tk, _, pa, pk, sk⟩ := hs
  refine ⟨fun σ h xs h' z => ?_, _, tk, (fun z => nomatch z), pa_cons pe pa hst, pk, fun g σ h τ H Q rs rh q => ?_⟩
  · rw [aCons_def] at z
    cases r : me σ h with
    | ok x h1 =>
      rw [r] at z
      simp only [Res.bind_ok] at z
      cases r2 : ms σ h1 with
      | ok ys h2 => rw [r2] at z; cases z; simp [la _ _ _ _ r2]; omega
      | exc _ _ => rw [r2] at z; cases z
      | bad => rw [r2] at z; cases z
    | exc _ _ => rw [r] at z; cases z
    | bad => rw [r] at z; cases z
  · refine se g σ h τ H _ rs rh ((Post.bind q).imp (fun u H1 ⟨g1, x, h1, m1, q1⟩ => ?_) fun _ _ _ z => z)
    have s2 := sk g1 σ h1 τ H1 (fun us H2 => Q (u :: us) H2) (rs.mono m1.le m1.len) m1.rel ((Post.bind (R := Reps (kx c X)) q1).imp (fun us H2 ⟨g2, ys, h2, m2, q2⟩ => q2 g2 (u :: us) H2 (Gh.le.refl _ _) (Nat.le_refl _) m2.rel (Reps.cons (m1.rep.mono m2.le m2.len) m2.rep)) fun _ _ _ z => z)
    simpa only [tCons, List.length_cons, Nat.add_right_cancel_iff, List.cons_append] using s2
theorem SE.callK (F : FnS c X.prog X.w X.K X.mg X.base k f fd ps m) (hr : Room k X.A) (hgd : X.A.guards = some []) (hg : Gl X x) (hm : X.mg x = some (.ref f)) (hk : PySem.W.keepIn X.K (.ref f) = true) (hb : KBd X.K fd ps (e :: es).length ks) (tk : Takes X W) (ha : SAK c X W (e :: es) kws ms)
    (hn : (e :: es).length + kws.length = ps.length := by rfl) (hl : ks.length = kws.length := by rfl) (hall : (backToKw pos (keywordEach kws X.env)).all (·.1.isSome) = true := by rfl) (hks : (backToKw pos (keywordEach kws X.env)).filterMap (·.1) = ks := by rfl) (hdb : (x == ("__debug__" : Str)) = false := by decide)
    (st : starEach (e :: es) X.env = (false, eval e X.env) :: starEach es X.env := by rfl) (pl : ((backTo pos (starEach (e :: es) X.env)).any (·.1) || (backToKw pos (keywordEach kws X.env)).any (·.1.isNone)) = false := by rfl) :
    SE c X W (.Call (.Name x p) (e :: es) kws pos) (eCall m ms) := by
  obtain ⟨la, t, tk', _, pa, pk, s⟩ := ha
  refine ⟨_, pe_callGK F.ok hr hgd hg hm hk hb (fun σ => passAt tk σ) pa pk hall hks hdb st pl, fun g σ h τ H Q rs rh q => ?_⟩
  rw [hl]
  exact args_sp (t := fun τ H Q => t τ H fun vs H1 => tk' τ H1 fun zs H2 => vs.length = (e :: es).length ∧ zs.length = kws.length ∧ Q (vs ++ zs) H2) (fun Q z => s g σ h τ H Q rs rh z) (fun xs h' z => (la σ h xs h' z).trans hn) q
theorem SE.callK0 (F : FnS c X.prog X.w X.K X.mg X.base k f fd ps m) (hr : Room k X.A) (hgd : X.A.guards = some []) (hg : Gl X x) (hm : X.mg x = some (.ref f)) (hk : PySem.W.keepIn X.K (.ref f) = true) (hb : KBd X.K fd ps 0 ks) (tk : Takes X W) (ha : SKW c X W kws ms)
    (hn : kws.length = ps.length := by rfl) (hl : ks.length = kws.length := by rfl) (hall : (backToKw pos (keywordEach kws X.env)).all (·.1.isSome) = true := by rfl) (hks : (backToKw pos (keywordEach kws X.env)).filterMap (·.1) = ks := by rfl) (hdb : (x == ("__debug__" : Str)) = false := by decide)
    (pl : ((backTo pos (starEach [] X.env)).any (·.1) || (backToKw pos (keywordEach kws X.env)).any (·.1.isNone)) = false := by rfl) :
    SE c X W (.Call (.Name x p) [] kws pos) (eCall m ms) := by
  obtain ⟨la, tk', pk, s⟩ := ha
  refine ⟨_, pe_callGK0 F.ok hr hgd hg hm hk hb (fun σ => passAt tk σ) pk hall hks hdb pl, fun g σ h τ H Q rs rh q => ?_⟩
  rw [hl]
  show tk' τ H fun zs H2 => ([] : List V).length = 0 ∧ zs.length = kws.length ∧ spOf _ _ m ([] ++ zs) H2 Q _
  refine args_sp (t := fun τ H Q => tk' τ H fun zs H2 => ([] : List V).length = 0 ∧ zs.length = kws.length ∧ Q ([] ++ zs) H2) (fun Q z => ?_) (fun xs h' z => (la σ h xs h' z).trans hn) q
  exact s g σ h τ H _ rs rh ((Post.withLen z (fun xs h' z => la σ h xs h' z)).imp (fun us H1 ⟨a, b⟩ => ⟨rfl, a, b⟩) fun _ _ _ z => z)
/-! ### methods with keywords -/
def tMethKW (C : Addr) (mn : Str) (n m : Nat) (sp : Sp) (E : L2.St → XK) (ta : TE) (t tk : TA) : TE := fun τ H Q => ta τ H fun x H1 => ∃ a dx fs, x = .ref a ∧ H1 a = some (.ins C dx fs) ∧ fs.lookup mn = none ∧ t τ H1 fun vs H2 => tk τ H2 fun zs H3 => vs.length = n ∧ zs.length = m ∧ sp (x :: (vs ++ zs)) H3 Q (E τ)
theorem pe_methWK {sp : Sp} {E : L2.St → XK} {ta : TE} {t tk : TA} {pl : Sem Bool} (po : PE X o ta) (cl : Cls X.K C) (me : Meth X.K C mn f) (F : FnG X.prog X.w X.K X.mg X.base k f fd ps sp) (room : Room k X.A) (gd : X.A.guards = some []) (bi : KBd X.K fd ps (n + 1) ks) (px : ∀ τ, PassesAt (L2.CX X.prog X.w) X τ (E τ)) (pa : PA X (e :: es) t) (pk : PK X kws tk)
    (hall : (backToKw pos (keywordEach kws X.env)).all (·.1.isSome) = true) (hks : (backToKw pos (keywordEach kws X.env)).filterMap (·.1) = ks)
    (st : starEach (e :: es) X.env = (false, eval e X.env) :: starEach es X.env) (pl' : ((backTo pos (starEach (e :: es) X.env)).any (·.1) || (backToKw pos (keywordEach kws X.env)).any (·.1.isNone)) = false)
    (tree : eval (.Call (.Attribute o mn apos) (e :: es) kws pos) X.env = (do
      let recv ← eval o X.env
      standAt apos.atName
      let (fn, head) ← holding [recv] (getMethod recv mn pl)
      callWith pos fn head (backTo pos (starEach (e :: es) X.env)) (backToKw pos (keywordEach kws X.env)))) : PE X (.Call (.Attribute o mn apos) (e :: es) kws pos) (tMethKW C mn n ks.length sp E ta t tk) := by
  refine ⟨fun pins s τ H Q I h => ?_⟩
  refine PySem.W.methodCall_KW (pl := pl) (thn (po.run pins s τ H _ I h) fun u s1 ⟨x, H1, I1, rx, a, dx, fs, ex, ea, nl, q⟩ => ?_) tree
  subst ex
  cases rx
  refine getmeth_ok I1 ea cl me nl ?_
  refine PySem.W.callWith_KW (first := [.ref a]) (h₀ := X.base) I.ok.mod.kin me.kp hall (thn (pa.run pos pins s1 τ H1 _ I1 q) fun us s2 ⟨vs, H2, I2, r, q2⟩ => ?_) pl' st
  refine thn (pk.run pos pins s2 τ H2 _ I2 q2) fun ws s3 ⟨zs, H3, I3, rz, l1, l2, q3⟩ => ⟨I3.kIn, ?_⟩
  rw [hks]
  exact run_fnGK (us := .ref a :: us) (vs := .ref a :: vs) F room gd bi (px τ) I3 (.cons rfl r) rz (by rw [List.length_cons, l1]) l2 q3
theorem pe_methWK0 {sp : Sp} {E : L2.St → XK} {ta : TE} {tk : TA} {pl : Sem Bool} (po : PE X o ta) (cl : Cls X.K C) (me : Meth X.K C mn f) (F : FnG X.prog X.w X.K X.mg X.base k f fd ps sp) (room : Room k X.A) (gd : X.A.guards = some []) (bi : KBd X.K fd ps 1 ks) (px : ∀ τ, PassesAt (L2.CX X.prog X.w) X τ (E τ)) (pk : PK X kws tk)
    (hall : (backToKw pos (keywordEach kws X.env)).all (·.1.isSome) = true) (hks : (backToKw pos (keywordEach kws X.env)).filterMap (·.1) = ks) (pl' : ((backTo pos (starEach [] X.env)).any (·.1) || (backToKw pos (keywordEach kws X.env)).any (·.1.isNone)) = false)
    (tree : eval (.Call (.Attribute o mn apos) [] kws pos) X.env = (do
      let recv ← eval o X.env
      standAt apos.atName
      let (fn, head) ← holding [recv] (getMethod recv mn pl)
      callWith pos fn head (backTo pos (starEach [] X.env)) (backToKw pos (keywordEach kws X.env)))) : PE X (.Call (.Attribute o mn apos) [] kws pos) (tMethKW C mn 0 ks.length sp E ta tNil tk) := by
  refine ⟨fun pins s τ H Q I h => ?_⟩
  refine PySem.W.methodCall_KW (pl := pl) (thn (po.run pins s τ H _ I h) fun u s1 ⟨x, H1, I1, rx, a, dx, fs, ex, ea, nl, q⟩ => ?_) tree
  subst ex
  cases rx
  refine getmeth_ok I1 ea cl me nl ?_
  refine PySem.W.callWith_KW0 (first := [.ref a]) (h₀ := X.base) I.ok.mod.kin me.kp hall ?_ pl'
  refine thn (pk.run pos pins s1 τ H1 _ I1 q) fun ws s3 ⟨zs, H3, I3, rz, l1, l2, q3⟩ => ⟨I3.kIn, ?_⟩
  rw [hks]
  exact run_fnGK (us := [.ref a]) (vs := [.ref a]) F room gd bi (px τ) I3 (.cons rfl .nil) rz rfl l2 q3
theorem methK_run {Cn nn mm : Nat} {t tk : TA} {ta : TE} (sl : ∀ σ h xs h', ms σ h = .ok xs h' → (xs.length + 1) = ps.length)
    (so : ∀ g σ h τ H Q, RelS (kx c X) g h.length σ τ → RelH (kx c X) g h H → Post (kx c X) (Rep (kx c X)) g h.length Q (at_ W τ) (mo σ h) → ta τ H Q)
    (sa : ∀ g σ h τ H Q, RelS (kx c X) g h.length σ τ → RelH (kx c X) g h H → Post (kx c X) (Reps (kx c X)) g h.length Q (at_ W τ) (ms σ h) → t τ H fun vs H1 => tk τ H1 fun zs H2 => vs.length = nn ∧ zs.length = mm ∧ Q (vs ++ zs) H2)
    (g : Gh) (σ : LS) (h : VH) (τ : L2.St) (H : Hp) (Q : VK) (rs : RelS (kx c X) g h.length σ τ) (rh : RelH (kx c X) g h H) (q : Post (kx c X) (Rep (kx c X)) g h.length Q (at_ W τ) (eMeth Cn mn m mo ms σ h)) :
    tMethKW (c Cn) mn nn mm (spOf (kx c X) ps.length m) (WE W) ta t tk τ H Q := by
  refine so g σ h τ H _ rs rh ((Post.bind q).imp (fun u H1 ⟨g1, x, h1, m1, q1⟩ => ?_) fun _ _ _ z => z)
  unfold methP at q1
  split at q1
  · rename_i D fs e1
    split at q1
    · rename_i e2
      obtain ⟨rfl, e3⟩ := e2
      obtain ⟨a, dx, gs, rfl, hu, r⟩ := insAt_run m1.rep m1.rel e1
      refine ⟨a, dx, gs, rfl, hu, (RepF.lookup (f := mn) r).2 e3, ?_⟩
      refine sa g1 σ h1 τ H1 (fun us H3 => spOf (kx c X) ps.length m (.ref a :: us) H3 Q (WE W τ)) (rs.mono m1.le m1.len) m1.rel ?_
      have ln := fun xs h' => sl σ h1 xs h'
      generalize ms σ h1 = res at q1 ln
      cases res with
      | ok xs h' => exact fun g' us H' l hn rh' ru => ⟨g', h', x :: xs, ln xs h' rfl, Reps.cons (m1.rep.mono l hn) ru, rh', Post.up q1 l hn⟩
      | exc e' h' => exact q1
      | bad => exact q1
    · exact q1.elim
  · exact q1.elim
theorem SE.methK {Cn : Nat} {pl : Sem Bool} (ho : SE c X W o mo) (cl : Cls X.K (c Cn)) (me : Meth X.K (c Cn) mn f) (F : FnS c X.prog X.w X.K X.mg X.base k f fd ps m) (hr : Room k X.A) (hgd : X.A.guards = some []) (hb : KBd X.K fd ps ((e :: es).length + 1) ks) (tk : Takes X W) (ha : SAK c X W (e :: es) kws ms)
    (hn : (e :: es).length + kws.length + 1 = ps.length := by rfl) (hl : ks.length = kws.length := by rfl) (hall : (backToKw pos (keywordEach kws X.env)).all (·.1.isSome) = true := by rfl) (hks : (backToKw pos (keywordEach kws X.env)).filterMap (·.1) = ks := by rfl)
    (st : starEach (e :: es) X.env = (false, eval e X.env) :: starEach es X.env := by rfl) (pl' : ((backTo pos (starEach (e :: es) X.env)).any (·.1) || (backToKw pos (keywordEach kws X.env)).any (·.1.isNone)) = false := by rfl)
    (tree : eval (.Call (.Attribute o mn apos) (e :: es) kws pos) X.env = (do
      let recv ← eval o X.env
      standAt apos.atName
      let (fn, head) ← holding [recv] (getMethod recv mn pl)
      callWith pos fn head (backTo pos (starEach (e :: es) X.env)) (backToKw pos (keywordEach kws X.env))) := by rfl) : SE c X W (.Call (.Attribute o mn apos) (e :: es) kws pos) (eMeth Cn mn m mo ms) := by
  obtain ⟨to, po, so⟩ := ho
  obtain ⟨la, t, tk', _, pa, pk, s⟩ := ha
  refine ⟨_, pe_methWK po cl me F.ok hr hgd hb (fun τ => passAt tk τ) pa pk hall hks st pl' tree, ?_⟩
  rw [hl]
  exact methK_run (fun σ h xs h' z => by rw [la σ h xs h' z]; exact hn) so s
theorem SE.methK0 {Cn : Nat} {pl : Sem Bool} (ho : SE c X W o mo) (cl : Cls X.K (c Cn)) (me : Meth X.K (c Cn) mn f) (F : FnS c X.prog X.w X.K X.mg X.base k f fd ps m) (hr : Room k X.A) (hgd : X.A.guards = some []) (hb : KBd X.K fd ps 1 ks) (tk : Takes X W) (ha : SAK c X W [] kws ms)
    (hn : 0 + kws.length + 1 = ps.length := by rfl) (hl : ks.length = kws.length := by rfl) (hall : (backToKw pos (keywordEach kws X.env)).all (·.1.isSome) = true := by rfl) (hks : (backToKw pos (keywordEach kws X.env)).filterMap (·.1) = ks := by rfl)
    (pl' : ((backTo pos (starEach [] X.env)).any (·.1) || (backToKw pos (keywordEach kws X.env)).any (·.1.isNone)) = false := by rfl)
    (tree : eval (.Call (.Attribute o mn apos) [] kws pos) X.env = (do
      let recv ← eval o X.env
      standAt apos.atName
      let (fn, head) ← holding [recv] (getMethod recv mn pl)
      callWith pos fn head (backTo pos (starEach [] X.env)) (backToKw pos (keywordEach kws X.env))) := by rfl) : SE c X W (.Call (.Attribute o mn apos) [] kws pos) (eMeth Cn mn m mo ms) := by
  obtain ⟨to, po, so⟩ := ho
  obtain ⟨la, t, tk', e0, pa, pk, s⟩ := ha
  obtain rfl := e0 rfl
  refine ⟨_, pe_methWK0 po cl me F.ok hr hgd hb (fun τ => passAt tk τ) pk hall hks pl' tree, ?_⟩
  rw [hl]
  exact methK_run (fun σ h xs h' z => by rw [la σ h xs h' z]; exact hn) so s
/-! ### C(k = v, ..) -/
theorem run_makeWK {sp : Sp} {E : XK} {pins : List (Addr × Obj)} {τ : L2.St} {H : Hp} {s : Shared} {Q : VK} {ws : List Value} {zs : List V} (mk : Mk X.K C f) (F : FnG X.prog X.w X.K X.mg X.base k f fd ps sp) (room : Room (k + 1) X.A) (gd : X.A.guards = some []) (bi : KBd X.K fd ps 1 ks)
    (px : PassesAt (L2.CX X.prog X.w) X τ E) (I : Inv X pins τ H s) (r : Vals zs ws) (l2 : zs.length = ks.length) (h : ∀ x dx, H x = none → H dx = none → dx ≠ x → sp (.ref x :: zs) (upd (upd H dx (.own x)) x (.ins C dx [])) (fun v H2 => v = .non ∧ Q (.ref x) H2) E) :
    wpAny (model X.prog X.w) X.A (call (.ref C) [] (ks.zip ws)) (EP X pins τ Q) X.xe s := by
  have q0 := h (s.heap.objs.size + 1) s.heap.objs.size (I.hok.fresh (Nat.le_succ _)) (I.hok.fresh (Nat.le_refl _)) (Nat.ne_of_lt (Nat.lt_succ_self _))
  have J := Inv.made (C := C) I
  have rr : Vals (V.ref (s.heap.objs.size + 1) :: zs) (Value.ref (s.heap.objs.size + 1) :: ws) := .cons rfl r
  refine wpAny_call (make_map (f := f) I.kIn mk.makes mk.init (beq_iff_eq.mp mk.fn) (codeAny_mono (F.run _ X.stack _ _ ⟨[Value.ref (s.heap.objs.size + 1)], ks.zip ws⟩ ([Value.ref (s.heap.objs.size + 1)] ++ ws) _ _ E (room.make C [] (ks.zip ws)) (make_guards.trans gd) (J.env0.make C [] (ks.zip ws)) (bi.to _ [Value.ref (s.heap.objs.size + 1)] ws rfl (r.length.symm.trans l2)) rr q0) fun res s' hq => ?_))
  cases res with
  | error e => exact px pins _ _ e s' J hq
  | ok fl =>
    cases fl with
    | ret u =>
      obtain ⟨v, H', I3, rv, ev, q3⟩ := J.after hq
      subst ev
      exact ⟨rv, V.ref (s.heap.objs.size + 1), H', I3, rfl, q3⟩
    | next => exact hq.elim
    | brk => exact hq.elim
    | cont => exact hq.elim
def tMakeKW (C : Addr) (m : Nat) (sp : Sp) (E : L2.St → XK) (tk : TA) : TE := fun τ H Q => tk τ H fun zs H2 => zs.length = m ∧ tMakeS C sp E (fun _ H' Q' => Q' zs H') τ H2 Q
theorem pe_makeWK {sp : Sp} {E : L2.St → XK} {tk : TA} (mk : Mk X.K C f) (F : FnG X.prog X.w X.K X.mg X.base k f fd ps sp) (room : Room (k + 1) X.A) (gd : X.A.guards = some []) (hg : Gl X x) (hm : X.mg x = some (.ref C)) (bi : KBd X.K fd ps 1 ks) (px : ∀ τ, PassesAt (L2.CX X.prog X.w) X τ (E τ)) (pk : PK X kws tk)
    (hall : (backToKw pos (keywordEach kws X.env)).all (·.1.isSome) = true) (hks : (backToKw pos (keywordEach kws X.env)).filterMap (·.1) = ks) (hdb : (x == ("__debug__" : Str)) = false)
    (pl : ((backTo pos (starEach [] X.env)).any (·.1) || (backToKw pos (keywordEach kws X.env)).any (·.1.isNone)) = false) : PE X (.Call (.Name x p) [] kws pos) (tMakeKW C ks.length sp E tk) := by
  refine ⟨fun pins s τ H Q I h => wpAny_Call_Name_kw (ld_glob I hg hm ?_ hdb)⟩
  refine PySem.W.callWith_KW0 (h₀ := X.base) I.ok.mod.kin mk.kp hall ?_ pl
  refine thn (pk.run pos pins s τ H _ I h) fun ws s2 ⟨zs, H2, I2, rz, l2, q2⟩ => ⟨I2.kIn, ?_⟩
  rw [hks]
  exact run_makeWK mk F room gd bi (px τ) I2 rz l2 q2
theorem SE.makeK {Cn : Nat} (mk : Mk X.K (c Cn) f) (F : FnS c X.prog X.w X.K X.mg X.base k f fd ps m) (hr : Room (k + 1) X.A) (hgd : X.A.guards = some []) (hg : Gl X x) (hm : X.mg x = some (.ref (c Cn))) (hb : KBd X.K fd ps 1 ks) (tk : Takes X W) (ha : SKW c X W kws ms)
    (hn : kws.length + 1 = ps.length := by rfl) (hl : ks.length = kws.length := by rfl) (hall : (backToKw pos (keywordEach kws X.env)).all (·.1.isSome) = true := by rfl) (hks : (backToKw pos (keywordEach kws X.env)).filterMap (·.1) = ks := by rfl) (hdb : (x == ("__debug__" : Str)) = false := by decide)
    (pl : ((backTo pos (starEach [] X.env)).any (·.1) || (backToKw pos (keywordEach kws X.env)).any (·.1.isNone)) = false := by rfl) :
    SE c X W (.Call (.Name x p) [] kws pos) (eMake Cn m ms) := by
  obtain ⟨la, t, pa, s⟩ := ha
  refine ⟨_, pe_makeWK mk F.ok hr hgd hg hm hb (fun τ => passAt tk τ) pa hall hks hdb pl, fun g σ h τ H Q rs rh q => ?_⟩
  rw [hl]
  refine s g σ h τ H _ rs rh ?_
  have ln := fun xs h' => la σ h xs h'
  dsimp only [eMake, eCall] at q
  generalize ms σ h = res at q ln
  cases res with
  | ok xs h' =>
    intro g1 us H1 l hn1 rh1 ru
    have l9 : us.length = kws.length := by
      have := ln xs h' rfl
      rw [ru.length]; omega
    refine ⟨l9, ?_⟩
    intro x dx nx ndx ne
    have q1 := Post.up q l hn1
    have sm : Same H1 (upd (upd H1 dx (.own x)) x (.ins (c Cn) dx [])) := fun b o e => by
      rw [upd_ne (ne_of_none e nx), upd_ne (ne_of_none e ndx)]; exact e
    obtain ⟨l2, rh2⟩ := RelH.push (o := .ins Cn []) rh1 sm nx upd_same ⟨dx, [], rfl, RepF.nil⟩
    have hl2 : (h' ++ [PO.ins Cn []]).length = h'.length + 1 := by simp
    refine ⟨_, _, .ref h'.length :: xs, by rw [List.length_cons, ln xs h' rfl]; exact hn, Reps.cons ?_ (ru.mono l2 (by rw [hl2]; exact Nat.le_succ _)), rh2, ?_⟩
    · simp only [Rep]
      exact ⟨by rw [hl2]; exact Nat.lt_succ_self _, by simp⟩
    · unfold makeP at q1
      rw [Res.bind_ok] at q1
      have q2 := Post.up q1 l2 (show h'.length ≤ (h' ++ [PO.ins Cn []]).length by rw [hl2]; exact Nat.le_succ _)
      generalize m (.ref h'.length :: xs) (h' ++ [PO.ins Cn []]) = r2 at q2
      cases r2 with
      | ok v h2 =>
        cases v with
        | non =>
          intro g3 u3 H3 l3 hn3 rh3 r3
          simp only [Rep] at r3
          refine ⟨r3, q2 g3 _ H3 l3 hn3 rh3 ?_⟩
          simp only [Rep]
          rw [hl2] at hn3
          refine ⟨by omega, ?_⟩
          rw [l3.rho h'.length (by rw [hl2]; exact Nat.lt_succ_self _)]
          simp
        | _ => exact q2.elim
      | exc e h2 => exact q2
      | bad => exact q2.elim
  | exc e' h' => exact q
  | bad => exact q
end
end Pm
namespace Pm
open PySem PySem.Spec L2 PyProof.Rows
/-! ### math.gcd -/
section
variable {c : Ck} {X : Cx} {W : WX}
def gcdP : List PV → VH → Res PV
  | [.int a, .int b], h => .ok (.int ((Nat.gcd a.natAbs b.natAbs : Nat) : Int)) h
  | _, _ => .bad
@[simp] theorem gcdP_ok (a b : Int) (h : VH) : gcdP [.int a, .int b] h = .ok (.int ((Nat.gcd a.natAbs b.natAbs : Nat) : Int)) h := (rfl)
theorem gcdS : CallS c X rGcd gcdP := fun g h H xs us Q E r rh p => by
  unfold gcdP at p
  split at p
  · rename_i a b _
    simp only [Reps] at r
    obtain ⟨u, us', rfl, r1, v, us2, rfl, r3, rfl⟩ := r
    simp only [Rep] at r1 r3
    exact ⟨_, _, by rw [r1, r3], p.go rh repI⟩
  · exact p.elim
theorem SE.callF {x : Str} {id : String} {r : List V → Hp → VK → Prop} {f : List PV → VH → Res PV} {e : Expr} {es : List Expr} {ms : AM} {p pos : Pos} (hc : CallR X (.builtin id) r) (hs : CallS c X r f) (hg : Gl X x) (hm : X.mg x = some (.builtin id)) (ha : SA c X W (e :: es) ms)
    (hdb : (x == ("__debug__" : Str)) = false := by decide) (he : starEach (e :: es) X.env = (false, eval e X.env) :: starEach es X.env := by rfl) (hpl : (backTo pos (starEach es X.env)).any (·.1) = false := by rfl) : SE c X W (.Call (.Name x p) (e :: es) [] pos) (eCall f ms) := by
  obtain ⟨_, t, pa, s⟩ := ha
  exact ⟨_, pe_callBfun hc hg hm pa hdb he hpl, fun g σ h τ H Q rs rh p => call_run hs s rs rh p⟩
end
end Pm
namespace Pm
open PySem PySem.Spec L2 PyProof.Rows
/-! ### x in a tuple of data -/
section
variable {c : Ck} {X : Cx}
def rInTD (K : PySem.W.Frag) (neg : Bool) : R2 := fun x y H Q => ∃ d ds, Dp K H x d ∧ Dp K H y (.tuple ds) ∧ SeqAt.shaped d = true ∧ SeqAt.shaped (.tuple ds) = true ∧ Q (.bl (if neg then !(ds.any fun z => PyData.eqv z d) else ds.any fun z => PyData.eqv z d)) H
theorem op_inTD (hu : X.A.units + 65 < cLine) : OpR X (compareOp .In) (rInTD X.K false) := by
  intro pins s σ H x y v u Q I rx ry h
  obtain ⟨d, ds, hd, he, sd, se, q⟩ := h
  obtain ⟨as, r1⟩ := Dp.reads I d x v hd rx
  obtain ⟨bs, r2⟩ := Dp.reads I (.tuple ds) y u he ry
  exact SeqAt.in_tuple_reads r2 r1 (SeqAt.canLay_of_shaped se) (SeqAt.canLay_of_shaped sd) (room_in_shaped sd hu) ⟨.bl _, H, I, rfl, q⟩
theorem op_notInTD (hu : X.A.units + 65 < cLine) : OpR X (compareOp .NotIn) (rInTD X.K true) := by
  intro pins s σ H x y v u Q I rx ry h
  obtain ⟨d, ds, hd, he, sd, se, q⟩ := h
  obtain ⟨as, r1⟩ := Dp.reads I d x v hd rx
  obtain ⟨bs, r2⟩ := Dp.reads I (.tuple ds) y u he ry
  exact SeqAt.notIn_tuple_reads r2 r1 (SeqAt.canLay_of_shaped se) (SeqAt.canLay_of_shaped sd) (room_in_shaped sd hu) ⟨.bl _, H, I, rfl, q⟩
def inTP (neg : Bool) (x y : PV) (h : VH) : Res PV := match dat h x, dat h y with
  | some d, some (.tuple ds) => if d.canLay0 = true ∧ PyData.canLayAll0 ds = true then .ok (.bl (if neg then !(ds.any fun z => PyData.eqv z d) else ds.any fun z => PyData.eqv z d)) h else .bad
  | _, _ => .bad
theorem inTP_ok {neg : Bool} {x y : PV} {h : VH} {d : PyData} {ds : List PyData} (e1 : dat h x = some d) (e2 : dat h y = some (.tuple ds)) (z : d.canLay0 = true ∧ PyData.canLayAll0 ds = true) : inTP neg x y h = .ok (.bl (if neg then !(ds.any fun z => PyData.eqv z d) else ds.any fun z => PyData.eqv z d)) h := by
  simp only [inTP, e1, e2]
  exact if_pos z
theorem inTS (neg : Bool) : OpS c X (rInTD X.K neg) (inTP neg) := fun g h H x y u v Q E rx ry rh p => by
  unfold inTP at p
  split at p
  · rename_i d ds e1 e2
    split at p
    · rename_i z
      obtain ⟨a1, a2⟩ := toD_run rh 12 rx e1
      obtain ⟨b1, b2⟩ := toD_run rh 12 ry e2
      exact ⟨d, ds, a1, b1, shaped_of z.1 a2, shaped_of z.2 b2, p.go rh repB⟩
    · exact p.elim
  · exact p.elim
end
end Pm
namespace Pm
open PySem PySem.Spec L2 PyProof.Rows
/-! ### bit_length -/
section
variable {c : Ck} {X : Cx} {W : WX}
def bitsP (x : PV) (h : VH) : Res PV := match x with
  | .int i => .ok (.int (Builtin.Int.intBits i : Nat)) h
  | _ => .bad
@[simp] theorem bitsP_int (i : Int) (h : VH) : bitsP (.int i) h = .ok (.int (Builtin.Int.intBits i : Nat)) h := rfl
theorem SE.bits {o : Expr} {apos pos : Pos} {mo : EM} (ho : SE c X W o mo) (hbase : attributeBase o "bit_length" X.env (eval o X.env) = eval o X.env := by rfl) (hline : (apos.endLine == pos.line) = true := by rfl) :
    SE c X W (.Call (.Attribute o "bit_length" apos) [] [] pos) (eUn bitsP mo) := by
  obtain ⟨t, p, s⟩ := ho
  refine ⟨_, pe_bits p hbase hline, fun g σ h τ H Q rs rh q => ?_⟩
  refine s g σ h τ H _ rs rh ((Post.bind q).imp (fun u H1 ⟨g1, x, h1, m1, q1⟩ => ?_) fun _ _ _ z => z)
  have rx := m1.rep
  cases x with
  | int i =>
    simp only [Rep] at rx
    subst rx
    exact ⟨i, rfl, Post.go q1 m1.rel repI⟩
  | _ => exact q1.elim
/-! ### x is True, x is False -/
def isB (neg : Bool) (x y : PV) (h : VH) : Res PV := match x, y with
  | .bl a, .bl b => .ok (.bl (if neg then !(a == b) else a == b)) h
  | _, _ => .bad
@[simp] theorem isB_bl (neg a b : Bool) (h : VH) : isB neg (.bl a) (.bl b) h = .ok (.bl (if neg then !(a == b) else a == b)) h := rfl
theorem isnotBS : OpS c X rNotB (isB true) := fun g h H x y u v Q E rx ry rh p => by
  unfold isB at p
  split at p
  · rename_i a b
    simp only [Rep] at rx ry
    exact ⟨a, b, rx, ry, Post.go p rh repB⟩
  · exact p.elim
theorem isBS : OpS c X rIsB (isB false) := fun g h H x y u v Q E rx ry rh p => by
  unfold isB at p
  split at p
  · rename_i a b
    simp only [Rep] at rx ry
    exact ⟨a, b, rx, ry, Post.go p rh repB⟩
  · exact p.elim
/-! ### two clauses -/
/-- a source, as a reading -/
def tiOf (K : Kc) (m : LS → VH → Res Src) : TI := fun τ H R => ∃ g σ h, RelS K g h.length σ τ ∧ RelH K g h H ∧ Post K (SrcOk K) g h.length R (at_ W0 τ) (m σ h)
theorem SI.pi {tg it : Expr} {m : LS → VH → Res Src} (h : SI c X W0 tg it m) : PI X tg it (tiOf (kx c X) m) := by
  obtain ⟨t, p, s⟩ := h
  exact ⟨fun pins st τ H R I ⟨g, σ, h, rs, rh, q⟩ => p.run pins st τ H R I (s g σ h τ H R rs rh q)⟩
open Classical in
noncomputable def compL2 (ck : List (Nat × List PV)) (ws : List Nat) (gm : GM) (mt : TM) (ms1 : LS → VH → Res Src) (ws1 : List Nat) (gm1 : GM) (mt1 : TM) (me : EM) (σ : LS) : List PV → List PV → VH → Res (List PV)
  | [], acc, h => if ckOk ck h then .ok acc h else .bad
  | x :: xs, acc, h => if ckOk ck h then ((gm x (wipeL σ ws) h).nx).bind fun σ2 h2 => ((mt σ2 h2).nx).bind fun b h3 =>
      if b = true then ((ms1 σ2 h3).nx).bind fun s h4 => (compL s.ck ws1 gm1 mt1 me σ2 s.xs acc h4).bind fun acc' h5 => compL2 ck ws gm mt ms1 ws1 gm1 mt1 me σ xs acc' h5
      else compL2 ck ws gm mt ms1 ws1 gm1 mt1 me σ xs acc h3
    else .bad
noncomputable def eLc2 (cell : Bool) (ms : LS → VH → Res Src) (ws : List Nat) (gm : GM) (mt : TM) (ms1 : LS → VH → Res Src) (ws1 : List Nat) (gm1 : GM) (mt1 : TM) (me : EM) : EM := fun σ h => (ms σ h).bind fun s h1 => (compL2 s.ck ws gm mt ms1 ws1 gm1 mt1 me σ s.xs [] h1).bind fun acc h2 => mkL cell acc h2
theorem eLc2_def (cell : Bool) (ms : LS → VH → Res Src) (ws : List Nat) (gm : GM) (mt : TM) (ms1 : LS → VH → Res Src) (ws1 : List Nat) (gm1 : GM) (mt1 : TM) (me : EM) (σ : LS) (h : VH) : eLc2 cell ms ws gm mt ms1 ws1 gm1 mt1 me σ h = (ms σ h).bind fun s h1 => (compL2 s.ck ws gm mt ms1 ws1 gm1 mt1 me σ s.xs [] h1).bind fun acc h2 => mkL cell acc h2 := rfl
/-- a walk's turns counted down -/
theorem walk_W {J : It} {n : Nat} {G : Hp → Prop} {Y : Nat → Hp → V → Hp → Prop} (w : Walk J n G Y) {H1 : Hp} {Qd : Hp → Prop} {T : Nat → Hp → (Hp → Prop) → V → Hp → Prop} (Pv : Nat → Hp → Prop) (h0 : Pv 0 H1) (hG : ∀ i H, i ≤ n → Pv i H → G H)
    (hs : ∀ i x H H', i < n → Pv i H → Y i H x H' → T i H (Pv (i + 1)) x H') (hd : ∀ H, Pv n H → Qd H) :
    ∃ W : Nat → Nat → Hp → Prop, (∃ m, W 0 m H1) ∧ ∀ i m H, W i m H → (J.stop i H ∧ Qd H) ∨ (J.go i H ∧ ∃ Nx : Hp → Prop, (∀ H', Nx H' → ∃ m', m' < m ∧ W (i + 1) m' H') ∧ ∀ x H', J.yld i H x H' → T i H Nx x H') := by
  refine ⟨fun i m H => m = n - i ∧ i ≤ n ∧ Pv i H, ⟨n, by simp, Nat.zero_le _, h0⟩, fun i m H hw => ?_⟩
  obtain ⟨e, hi, p⟩ := hw
  have q := hG i H hi p
  rcases Nat.lt_or_eq_of_le hi with hlt | he
  · exact .inr ⟨w.goes i H hlt q, Pv (i + 1), fun H' p' => ⟨n - (i + 1), by omega, rfl, hlt, p'⟩, fun x H' y => hs i x H H' hlt p (w.yields i H x H' hlt q y)⟩
  · subst he
    exact .inl ⟨w.stops H q, hd H p⟩
theorem wipe_twice (σ : L2.St) (vs : List Nat) : L2.wipe (L2.wipe σ vs) vs = L2.wipe σ vs := by
  have gen : ∀ (vs us : List Nat), (∀ v ∈ vs, v ∈ us) → L2.wipe (L2.wipe σ vs) us = L2.wipe σ us := by
    intro vs
    induction vs with
    | nil => intro us _; rfl
    | cons v vs ih =>
      intro us hm
      show L2.wipe ((L2.wipe σ vs).set v none) us = _
      rw [wipe_set (hm v List.mem_cons_self), ih us fun w hw => hm w (List.mem_cons_of_mem _ hw)]
  exact gen vs vs fun _ h => h
/-- a watched list within a walk -/
structure Wt (K : Kc) (g0 : Gh) (n0 : Nat) (D : Addr) (g : Gh) (h : VH) (acc : List PV) (us : List V) (H : Hp) : Prop where
  le : g0.le0 n0 g
  len : n0 ≤ h.length
  rel : RelH K g h H
  at_ : g.pr D = some (.lst us)
  np : ∀ a, a ≠ D → g.pr a = g0.pr a
  rep : Reps K g h.length acc us
section
variable {K : Kc} {g0 g g' : Gh} {n0 : Nat} {D : Addr} {h h' : VH} {acc : List PV} {us : List V} {H H' : Hp}
theorem Wt.go (w : Wt K g0 n0 D g h acc us H) (l : g.le h.length g') (hn : h.length ≤ h'.length) (r : RelH K g' h' H') : Wt K g0 n0 D g' h' acc us H' :=
  ⟨w.le.trans l.to0 w.len, Nat.le_trans w.len hn, r, by rw [l.pr]; exact w.at_, fun a ha => by rw [l.pr]; exact w.np a ha, w.rep.mono l hn⟩
theorem Wt.push (w : Wt K g0 n0 D g h acc us H) {y : PV} {u : V} (ru : Rep K g h.length y u) (hz : acc.length < 16777216) : H D = some (.lst us) ∧ us.length < sizeLine ∧ Wt K g0 n0 D (g.wat D (us ++ [u])) h (acc ++ [y]) (us ++ [u]) (upd H D (.lst (us ++ [u]))) := by
  have la := w.rep.length
  refine ⟨(w.rel.fr D _ w.at_).1, by rw [sizeLine_eq]; omega, Gh.le0_wat w.le, w.len, w.rel.rewatch w.at_, if_pos rfl, fun a ha => ?_, ?_⟩
  · show (if a = D then _ else g.pr a) = _
    rw [if_neg ha]; exact w.np a ha
  · exact (w.rep.append (Reps.cons ru Reps.nil)).mono0 (g.wat_le0 _ _ _) (Nat.le_refl _)
end
/-- the inner clause -/
theorem comp_in {ws : List Nat} {gm : GM} {mt : TM} {me : EM} {src : Src} {K : Kc} {g0 g1 : Gh} {n0 : Nat} {h1 : VH} {H1 : Hp} {J : It} {D : Addr} {σ : LS} {τ : L2.St} {acc1 : List PV} {us1 : List V} {Kn : Res (List PV) → Prop} {Qd : Hp → Prop}
    (kb : ¬ Kn .bad) (w1 : Wt K g0 n0 D g1 h1 acc1 us1 H1) (so : SrcOk K g1 h1.length src J) (rs : RelS K g1 h1.length σ τ) (q : Kn (compL src.ck ws gm mt me σ src.xs acc1 h1))
    (fin : ∀ g' h' acc us H, g1.le0 h1.length g' → h1.length ≤ h'.length → Wt K g0 n0 D g' h' acc us H → Kn (.ok acc h') → Qd H) :
    ∃ W : Nat → Nat → Hp → Prop, (∃ m, W 0 m H1) ∧ ∀ i m H, W i m H →
      (J.stop i H ∧ Qd H) ∨ (J.go i H ∧ ∃ Nx : Hp → Prop, (∀ H', Nx H' → ∃ m', m' < m ∧ W (i + 1) m' H') ∧ ∀ x H', J.yld i H x H' → tgOf K gm ws x (L2.wipe τ ws) H' fun τ2 H2 => L2.wipe τ2 ws = L2.wipe τ ws ∧ ttOf K mt τ2 H2 fun b H3 =>
        if b = true then teOf K me τ2 H3 fun y H4 => ∃ acc, H4 D = some (.lst acc) ∧ acc.length < sizeLine ∧ Nx (upd H4 D (.lst (acc ++ [y]))) else Nx H3) := by
  obtain ⟨Gp, Y, wk, hG, hY⟩ := so
  have ckof : ∀ {xs acc h'}, Kn (compL src.ck ws gm mt me σ xs acc h') → ckOk src.ck h' := fun {xs acc h'} q => by
    refine Classical.byContradiction fun hc => kb ?_
    cases xs with
    | nil => unfold compL at q; rwa [if_neg hc] at q
    | cons y ys => unfold compL at q; rwa [if_neg hc] at q
  refine walk_W wk (T := fun i H Nx x H' => tgOf K gm ws x (L2.wipe τ ws) H' fun τ2 H2 => L2.wipe τ2 ws = L2.wipe τ ws ∧ ttOf K mt τ2 H2 fun b H3 => if b = true then teOf K me τ2 H3 fun y H4 => ∃ acc, H4 D = some (.lst acc) ∧ acc.length < sizeLine ∧ Nx (upd H4 D (.lst (acc ++ [y]))) else Nx H3)
    (fun i H => ∃ g' h' acc us, g1.le0 h1.length g' ∧ h1.length ≤ h'.length ∧ Wt K g0 n0 D g' h' acc us H ∧ Kn (compL src.ck ws gm mt me σ (src.xs.drop i) acc h')) ?_ (fun i H hi hh => ?_) (fun i x H H' hi hh hy => ?_) (fun H hh => ?_)
  · exact ⟨g1, h1, acc1, us1, ⟨Same.refl _, fun _ _ => rfl⟩, Nat.le_refl _, w1, q⟩
  · obtain ⟨g', h', acc, us, l, hn, wt, q'⟩ := hh
    exact hG g' h' H l hn wt.rel (ckof q')
  · obtain ⟨g', h', acc, us, l, hn, wt, q'⟩ := hh
    have hck := ckof q'
    rw [List.drop_eq_getElem_cons hi] at q'
    unfold compL at q'
    rw [if_pos hck] at q'
    obtain ⟨g2, l2, rh2, rx⟩ := hY i _ g' h' H H' l hn wt.rel hck (List.getElem?_eq_getElem hi) x hy
    refine ⟨g2, wipeL σ ws, h', src.xs[i], ((rs.mono0 l hn).mono l2 (Nat.le_refl _)).wipe ws, rh2, rx, ?_⟩
    cases e1 : gm src.xs[i] (wipeL σ ws) h' with
    | exc e h2 => rw [e1] at q'; exact absurd q' kb
    | bad => rw [e1] at q'; exact absurd q' kb
    | ok σ2 h2 =>
    rw [e1, Res.nx_ok, Res.bind_ok] at q'
    intro g3 τ2 H3 l3 hn3 rh3 ⟨rs3, ew⟩
    refine ⟨ew.trans (wipe_twice _ _), g3, σ2, h2, rs3, rh3, ?_⟩
    cases e2 : mt σ2 h2 with
    | exc e h2 => rw [e2] at q'; exact absurd q' kb
    | bad => rw [e2] at q'; exact absurd q' kb
    | ok b h3 =>
    rw [e2, Res.nx_ok, Res.bind_ok] at q'
    intro g4 b' H4 l4 hn4 rh4 eb
    obtain rfl : b' = b := eb
    have l14 : g'.le h'.length g4 := (l2.trans l3 (Nat.le_refl _)).trans l4 (Nat.le_trans (Nat.le_refl _) hn3)
    have hn14 : h'.length ≤ h3.length := Nat.le_trans hn3 hn4
    cases b' with
    | false =>
      rw [if_neg Bool.false_ne_true] at q' ⊢
      exact ⟨g4, h3, acc, us, l.trans l14.to0 hn, Nat.le_trans hn hn14, wt.go l14 hn14 rh4, q'⟩
    | true =>
      rw [if_pos rfl] at q' ⊢
      refine ⟨g4, σ2, h3, rs3.mono l4 hn4, rh4, ?_⟩
      cases e3 : me σ2 h3 with
      | exc e h2 => rw [e3] at q'; exact absurd q' kb
      | bad => rw [e3] at q'; exact absurd q' kb
      | ok y h4 =>
      rw [e3, Res.nx_ok, Res.bind_ok] at q'
      intro g5 u H5 l5 hn5 rh5 ru
      have l15 : g'.le h'.length g5 := l14.trans l5 hn14
      have hn15 : h'.length ≤ h4.length := Nat.le_trans hn14 hn5
      by_cases hz : acc.length < 16777216
      · rw [if_pos hz] at q'
        obtain ⟨p1, p2, p3⟩ := (wt.go l15 hn15 rh5).push ru hz
        exact ⟨us, p1, p2, g5.wat D (us ++ [u]), h4, acc ++ [y], us ++ [u], Gh.le0_wat (l.trans l15.to0 hn), Nat.le_trans hn hn15, p3, q'⟩
      · rw [if_neg hz] at q'; exact absurd q' kb
  · obtain ⟨g', h', acc, us, l, hn, wt, q'⟩ := hh
    have hck := ckof q'
    rw [List.drop_length] at q'
    unfold compL at q'
    rw [if_pos hck] at q'
    exact fin g' h' acc us H l hn wt q'
theorem comp2_run {ws ws1 : List Nat} {gm gm1 : GM} {mt mt1 : TM} {me : EM} {ms1 : LS → VH → Res Src} {cell : Bool} {src : Src} {K : Kc} {g0 : Gh} {h0 : VH} {H0 : Hp} {J : It} {D : Addr} {Q : VK} {E : XK} {σ : LS} {τ : L2.St}
    (so : SrcOk K g0 h0.length src J) (rs : RelS K g0 h0.length σ τ) (rh : RelH K g0 h0 H0) (nD : H0 D = none)
    (q : Post K (Rep K) g0 h0.length Q E ((compL2 src.ck ws gm mt ms1 ws1 gm1 mt1 me σ src.xs [] h0).bind fun acc h2 => mkL cell acc h2)) :
    ∃ W : Nat → Nat → Hp → Prop, (∃ m, W 0 m (upd H0 D (.lst []))) ∧ ∀ i m H, W i m H →
      (J.stop i H ∧ Q (.ref D) H) ∨ (J.go i H ∧ ∃ Nx : Hp → Prop, (∀ H', Nx H' → ∃ m', m' < m ∧ W (i + 1) m' H') ∧ ∀ x H', J.yld i H x H' → tgOf K gm ws x (L2.wipe τ ws) H' fun τ2 H2 => L2.wipe τ2 ws = L2.wipe τ ws ∧ ttOf K mt τ2 H2 fun b H3 =>
        if b = true then tiOf K ms1 τ2 H3 fun J1 H4 => ∃ W1 : Nat → Nat → Hp → Prop, (∃ m, W1 0 m H4) ∧ ∀ j k H, W1 j k H →
          (J1.stop j H ∧ Nx H) ∨ (J1.go j H ∧ ∃ Nx1 : Hp → Prop, (∀ H', Nx1 H' → ∃ k', k' < k ∧ W1 (j + 1) k' H') ∧ ∀ x H', J1.yld j H x H' → tgOf K gm1 ws1 x (L2.wipe τ2 ws1) H' fun τ3 H5 => L2.wipe τ3 ws1 = L2.wipe τ2 ws1 ∧ ttOf K mt1 τ3 H5 fun b H6 =>
            if b = true then teOf K me τ3 H6 fun y H7 => ∃ acc, H7 D = some (.lst acc) ∧ acc.length < sizeLine ∧ Nx1 (upd H7 D (.lst (acc ++ [y]))) else Nx1 H6)
        else Nx H3) := by
  obtain ⟨Gp, Y, wk, hG, hY⟩ := so
  have p0 : g0.pr D = none := by
    cases z : g0.pr D with
    | none => rfl
    | some o => have := (rh.fr D o z).1; rw [nD] at this; cases this
  have kb : ¬ Post K (Rep K) g0 h0.length Q E ((Res.bad : Res (List PV)).bind fun acc h2 => mkL cell acc h2) := fun z => z.elim
  have ckof : ∀ {xs acc h'}, Post K (Rep K) g0 h0.length Q E ((compL2 src.ck ws gm mt ms1 ws1 gm1 mt1 me σ xs acc h').bind fun acc h2 => mkL cell acc h2) → ckOk src.ck h' := fun {xs acc h'} q => by
    refine Classical.byContradiction fun hc => kb ?_
    cases xs with
    | nil => unfold compL2 at q; rwa [if_neg hc] at q
    | cons y ys => unfold compL2 at q; rwa [if_neg hc] at q
  refine walk_W wk (T := fun i H Nx x H' => tgOf K gm ws x (L2.wipe τ ws) H' fun τ2 H2 => L2.wipe τ2 ws = L2.wipe τ ws ∧ ttOf K mt τ2 H2 fun b H3 =>
        if b = true then tiOf K ms1 τ2 H3 fun J1 H4 => ∃ W1 : Nat → Nat → Hp → Prop, (∃ m, W1 0 m H4) ∧ ∀ j k H, W1 j k H →
          (J1.stop j H ∧ Nx H) ∨ (J1.go j H ∧ ∃ Nx1 : Hp → Prop, (∀ H', Nx1 H' → ∃ k', k' < k ∧ W1 (j + 1) k' H') ∧ ∀ x H', J1.yld j H x H' → tgOf K gm1 ws1 x (L2.wipe τ2 ws1) H' fun τ3 H5 => L2.wipe τ3 ws1 = L2.wipe τ2 ws1 ∧ ttOf K mt1 τ3 H5 fun b H6 =>
            if b = true then teOf K me τ3 H6 fun y H7 => ∃ acc, H7 D = some (.lst acc) ∧ acc.length < sizeLine ∧ Nx1 (upd H7 D (.lst (acc ++ [y]))) else Nx1 H6)
        else Nx H3)
    (fun i H => ∃ g' h' acc us, Wt K g0 h0.length D g' h' acc us H ∧ Post K (Rep K) g0 h0.length Q E ((compL2 src.ck ws gm mt ms1 ws1 gm1 mt1 me σ (src.xs.drop i) acc h').bind fun acc h2 => mkL cell acc h2)) ?_ (fun i H hi hh => ?_) (fun i x H H' hi hh hy => ?_) (fun H hh => ?_)
  · exact ⟨g0.wat D [], h0, [], [], ⟨g0.wat_le0 _ _ _, Nat.le_refl _, rh.watch nD, if_pos rfl, fun a ha => if_neg ha, Reps.nil⟩, q⟩
  · obtain ⟨g', h', acc, us, wt, q'⟩ := hh
    exact hG g' h' H wt.le wt.len wt.rel (ckof q')
  · obtain ⟨g', h', acc, us, wt, q'⟩ := hh
    have hck := ckof q'
    rw [List.drop_eq_getElem_cons hi] at q'
    unfold compL2 at q'
    rw [if_pos hck] at q'
    obtain ⟨g2, l2, rh2, rx⟩ := hY i _ g' h' H H' wt.le wt.len wt.rel hck (List.getElem?_eq_getElem hi) x hy
    refine ⟨g2, wipeL σ ws, h', src.xs[i], ((rs.mono0 wt.le wt.len).mono l2 (Nat.le_refl _)).wipe ws, rh2, rx, ?_⟩
    cases e1 : gm src.xs[i] (wipeL σ ws) h' with
    | exc e h2 => rw [e1] at q'; exact q'.elim
    | bad => rw [e1] at q'; exact q'.elim
    | ok σ2 h2 =>
    rw [e1, Res.nx_ok, Res.bind_ok] at q'
    intro g3 τ2 H3 l3 hn3 rh3 ⟨rs3, ew⟩
    refine ⟨ew.trans (wipe_twice _ _), g3, σ2, h2, rs3, rh3, ?_⟩
    cases e2 : mt σ2 h2 with
    | exc e h2 => rw [e2] at q'; exact q'.elim
    | bad => rw [e2] at q'; exact q'.elim
    | ok b h3 =>
    rw [e2, Res.nx_ok, Res.bind_ok] at q'
    intro g4 b' H4 l4 hn4 rh4 eb
    obtain rfl : b' = b := eb
    have l14 : g'.le h'.length g4 := (l2.trans l3 (Nat.le_refl _)).trans l4 (Nat.le_trans (Nat.le_refl _) hn3)
    have hn14 : h'.length ≤ h3.length := Nat.le_trans hn3 hn4
    cases b' with
    | false =>
      rw [if_neg Bool.false_ne_true] at q' ⊢
      exact ⟨g4, h3, acc, us, wt.go l14 hn14 rh4, q'⟩
    | true =>
      rw [if_pos rfl] at q' ⊢
      refine ⟨g4, σ2, h3, rs3.mono l4 hn4, rh4, ?_⟩
      cases e3 : ms1 σ2 h3 with
      | exc e h2 => rw [e3] at q'; exact q'.elim
      | bad => rw [e3] at q'; exact q'.elim
      | ok s h4 =>
      rw [e3, Res.nx_ok, Res.bind_ok] at q'
      intro g5 J1 H5 l5 hn5 rh5 so1
      have l15 : g'.le h'.length g5 := l14.trans l5 hn14
      have hn15 : h'.length ≤ h4.length := Nat.le_trans hn14 hn5
      exact comp_in (Kn := fun r => Post K (Rep K) g0 h0.length Q E ((r.bind fun acc' h5 => compL2 src.ck ws gm mt ms1 ws1 gm1 mt1 me σ (src.xs.drop (i + 1)) acc' h5).bind fun acc h2 => mkL cell acc h2)) (fun z => z.elim) (wt.go l15 hn15 rh5) so1 ((rs3.mono l4 hn4).mono l5 hn5) q' (fun g' h' acc us H l hn w q => ⟨g', h', acc, us, w, q⟩)
  · obtain ⟨g', h', acc, us, wt, q'⟩ := hh
    have hck := ckof q'
    rw [List.drop_length] at q'
    unfold compL2 at q'
    rw [if_pos hck, Res.bind_ok] at q'
    exact mkL_at wt.rel wt.at_ wt.rep wt.le wt.len wt.np p0 q'
variable {elt tg iter tg1 iter1 : Expr} {ifs ifs1 : List Expr} {scope : Scope} {own : List (Str × Nat)} {ws1 : List Nat} {ms ms1 : LS → VH → Res Src} {gm gm1 : GM} {mt mt1 : TM} {me : EM} {pos : Pos}
theorem SE.lc2 (cell : Bool) (hc : X.calm = true) (hN : X.N.Nodup) (hi : SI c X W tg iter ms) (ok : BlkOk X.N X.env.scope scope own) (hv : ∀ i ∈ ws1, i ∈ own.map (·.2))
    (hg : ∀ (s : Shared) (H : Hp) (C : Addr) (cl : List (Str × Addr)) (fp : List Addr), SGw c (X.blk s H scope (compEnvC scope cl C X.env) fp) tg gm (own.map (·.2)))
    (ht : ∀ (s : Shared) (H : Hp) (C : Addr) (cl : List (Str × Addr)) (fp : List Addr), STs c (X.blk s H scope (compEnvC scope cl C X.env) fp) W0 ifs mt)
    (hi1 : ∀ (s : Shared) (H : Hp) (C : Addr) (cl : List (Str × Addr)) (fp : List Addr), SI c (X.blk s H scope (compEnvC scope cl C X.env) fp) W0 tg1 iter1 ms1)
    (hg1 : ∀ (s : Shared) (H : Hp) (C : Addr) (cl : List (Str × Addr)) (fp : List Addr), SGw c (X.blk s H scope (compEnvC scope cl C X.env) fp) tg1 gm1 ws1)
    (ht1 : ∀ (s : Shared) (H : Hp) (C : Addr) (cl : List (Str × Addr)) (fp : List Addr), STs c (X.blk s H scope (compEnvC scope cl C X.env) fp) W0 ifs1 mt1)
    (he : ∀ (s : Shared) (H : Hp) (C : Addr) (cl : List (Str × Addr)) (fp : List Addr), SE c (X.blk s H scope (compEnvC scope cl C X.env) fp) W0 elt me)
    (hs : ∀ x, foldedSetIterable iter X.env x = pure x := by intro _; rfl) (hs1 : ∀ env x, foldedSetIterable iter1 env x = pure x := by intro _ _; rfl) :
    SE c X W (.ListComp elt [⟨tg, iter, ifs, 0⟩, ⟨tg1, iter1, ifs1, 0⟩] scope pos) (eLc2 cell ms (own.map (·.2)) gm mt ms1 ws1 gm1 mt1 me) := by
  obtain ⟨ti, pi, si⟩ := hi
  refine ⟨_, pe_lc2 (te := teOf (kx c X) me) (tt := ttOf (kx c X) mt) (tt1 := ttOf (kx c X) mt1) (g := tgOf (kx c X) gm (own.map (·.2))) (g1 := tgOf (kx c X) gm1 ws1) (wi1 := tiOf (kx c X) ms1) hc hN pi ok hv (fun s H C cl fp => (hg s H C cl fp).pg) (fun s H C cl fp => (ht s H C cl fp).pts)
    (fun s H C cl fp => (hi1 s H C cl fp).pi) (fun s H C cl fp => (hg1 s H C cl fp).pg) (fun s H C cl fp => (ht1 s H C cl fp).pts) (fun s H C cl fp => (he s H C cl fp).pe) hs hs1, fun g σ h τ H Q rs rh q => ?_⟩
  refine si g σ h τ H _ rs rh ((Post.bind q).imp (fun J H1 ⟨g1, src, h1, m1, q1⟩ => fun D nD => ?_) fun _ _ _ z => z)
  exact comp2_run m1.rep (rs.mono m1.le m1.len) m1.rel nD q1
theorem S1.setLc2 (cell : Bool) {i : Nat} {y : Str} {py spos : Pos} (hc : X.calm = true) (hN : X.N.Nodup) (hy : X.N[i]? = some y) (hyl : X.env.scope.names.lookup y = some .local)
    (hsw : swapsWith (.ListComp elt [⟨tg, iter, ifs, 0⟩, ⟨tg1, iter1, ifs1, 0⟩] scope pos) (some (.Name y py)) spos.line X.env = pure true) (hi : SI c X W tg iter ms) (ok : BlkOk X.N X.env.scope scope own) (hv : ∀ i ∈ ws1, i ∈ own.map (·.2))
    (hg : ∀ (s : Shared) (H : Hp) (C : Addr) (cl : List (Str × Addr)) (fp : List Addr), SGw c (X.blk s H scope (compEnvC scope cl C X.env) fp) tg gm (own.map (·.2)))
    (ht : ∀ (s : Shared) (H : Hp) (C : Addr) (cl : List (Str × Addr)) (fp : List Addr), STs c (X.blk s H scope (compEnvC scope cl C X.env) fp) W0 ifs mt)
    (hi1 : ∀ (s : Shared) (H : Hp) (C : Addr) (cl : List (Str × Addr)) (fp : List Addr), SI c (X.blk s H scope (compEnvC scope cl C X.env) fp) W0 tg1 iter1 ms1)
    (hg1 : ∀ (s : Shared) (H : Hp) (C : Addr) (cl : List (Str × Addr)) (fp : List Addr), SGw c (X.blk s H scope (compEnvC scope cl C X.env) fp) tg1 gm1 ws1)
    (ht1 : ∀ (s : Shared) (H : Hp) (C : Addr) (cl : List (Str × Addr)) (fp : List Addr), STs c (X.blk s H scope (compEnvC scope cl C X.env) fp) W0 ifs1 mt1)
    (he : ∀ (s : Shared) (H : Hp) (C : Addr) (cl : List (Str × Addr)) (fp : List Addr), SE c (X.blk s H scope (compEnvC scope cl C X.env) fp) W0 elt me)
    (hs : ∀ x, foldedSetIterable iter X.env x = pure x := by intro _; rfl) (hs1 : ∀ env x, foldedSetIterable iter1 env x = pure x := by intro _ _; rfl) :
    S1 c X W (.Assign [.Name y py] (.ListComp elt [⟨tg, iter, ifs, 0⟩, ⟨tg1, iter1, ifs1, 0⟩] scope pos) spos) (sSet i (eLc2 cell ms (own.map (·.2)) gm mt ms1 ws1 gm1 mt1 me)) := by
  obtain ⟨ti, pi, si⟩ := hi
  refine ⟨_, ps_setLc2 (te := teOf (kx c X) me) (tt := ttOf (kx c X) mt) (tt1 := ttOf (kx c X) mt1) (g := tgOf (kx c X) gm (own.map (·.2))) (g1 := tgOf (kx c X) gm1 ws1) (wi1 := tiOf (kx c X) ms1) hc hN hy hyl hsw pi ok hv (fun s H C cl fp => (hg s H C cl fp).pg) (fun s H C cl fp => (ht s H C cl fp).pts)
    (fun s H C cl fp => (hi1 s H C cl fp).pi) (fun s H C cl fp => (hg1 s H C cl fp).pg) (fun s H C cl fp => (ht1 s H C cl fp).pts) (fun s H C cl fp => (he s H C cl fp).pe) hs hs1, fun g σ h τ H D rs rh q => ?_⟩
  have q' : Post (kx c X) (Rep (kx c X)) g h.length (fun u H1 => gName i u τ H1 D.nx) (at_ W τ) (eLc2 cell ms (own.map (·.2)) gm mt ms1 ws1 gm1 mt1 me σ h) :=
    (PostS.then rs q).imp (fun u H1 ⟨g1, x, h1, m1, q1⟩ => q1 g1 _ H1 (Gh.le.refl _ _) (Nat.le_refl _) m1.rel ((rs.mono m1.le m1.len).set i m1.rep)) fun _ _ _ z => z
  refine si g σ h τ H _ rs rh ((Post.bind q').imp (fun J H1 ⟨g1, src, h1, m1, q1⟩ => fun D nD => ?_) fun _ _ _ z => z)
  exact comp2_run m1.rep (rs.mono m1.le m1.len) m1.rel nD q1
/-! ### two clauses, plainly -/
theorem comp2_ints {ck : List (Nat × List PV)} {ws ws1 : List Nat} {gm gm1 : GM} {mt mt1 : TM} {me : EM} {ms1 : LS → VH → Res Src} {σ : LS} {xs : List PV} {h : VH} (hck : ckOk ck h) (F : Nat → List PV)
    (hx : ∀ i x acc, xs[i]? = some x → acc.length + (F i).length ≤ 16777216 → ∃ σ2 s, gm x (wipeL σ ws) h = .ok σ2 h ∧ mt σ2 h = .ok true h ∧ ms1 σ2 h = .ok s h ∧ compL s.ck ws1 gm1 mt1 me σ2 s.xs acc h = .ok (acc ++ F i) h) :
    ∀ (k : Nat) (acc : List PV) (ys : List PV), ys = xs.drop k → k ≤ xs.length → acc.length + (((List.range (xs.length - k)).map fun i => (F (k + i)).length).sum) ≤ 16777216 →
      compL2 ck ws gm mt ms1 ws1 gm1 mt1 me σ ys acc h = .ok (acc ++ ((List.range (xs.length - k)).map fun i => F (k + i)).flatten) h := by
  intro k acc ys
  induction ys generalizing k acc with
  | nil =>
    intro e hk _
    have : xs.length - k = 0 := by have := congrArg List.length e; simp at this; omega
    rw [this]
    unfold compL2
    rw [if_pos hck]; simp
  | cons y ys ih =>
    intro e hk hl
    have hlt : k < xs.length := by have := congrArg List.length e; simp at this; omega
    rw [List.drop_eq_getElem_cons hlt] at e
    obtain ⟨rfl, rfl⟩ := List.cons.inj e
    have er : List.range (xs.length - k) = 0 :: (List.range (xs.length - (k + 1))).map (· + 1) := by
      rw [show xs.length - k = (xs.length - (k + 1)) + 1 by omega, List.range_succ_eq_map]
    rw [er, List.map_cons, List.sum_cons, List.map_map] at hl
    have e2 : ((fun i => (F (k + i)).length) ∘ fun x => x + 1) = fun i => (F (k + 1 + i)).length := by funext i; simp only [Function.comp]; congr 2; omega
    have e3 : ((fun i => F (k + i)) ∘ fun x => x + 1) = fun i => F (k + 1 + i) := by funext i; simp only [Function.comp]; congr 1; omega
    rw [e2] at hl
    simp only [Nat.add_zero] at hl
    obtain ⟨σ2, s, h1, h2, h3, h4⟩ := hx k _ acc (List.getElem?_eq_getElem hlt) (by omega)
    unfold compL2
    rw [if_pos hck, h1]
    simp only [Res.nx_ok, Res.bind_ok, h2, if_true, h3, h4]
    rw [ih (k + 1) _ rfl hlt (by rw [List.length_append]; omega), er, List.map_cons, List.map_map, e3, List.flatten_cons, List.append_assoc]
    rfl
end
end Pm
namespace Pm
open PySem PySem.Spec L2 PyProof.Rows
/-! ### several except clauses, some with a name -/
section
abbrev Cla := Value × Option Nat × (Addr → Value → Option Addr → TS)
def dOut (o : Option Nat) (D : Ends) : Ends := { nx := fun s h => D.nx (undo o s) h, rt := D.rt, bk := fun s h => D.bk (undo o s) h, ct := fun s h => D.ct (undo o s) h }
def sIn (o : Option Nat) (a : Addr) (s : L2.St) : L2.St := match o with
  | some i => s.set i (some (.ref a))
  | none => s
def wCla (K : PySem.W.Frag) (Wout : WX) (D : Ends) : List Cla → WX
  | [] => Wout
  | q :: r => fun cls d s h => ∃ b, PySem.W.exmOne K cls q.1 = some b ∧ (b = true → ∀ a, h a = none → q.2.2 a cls d (dOut q.2.1 D) (sIn q.2.1 a s) h) ∧ (b = false → wCla K Wout D r cls d s h)
inductive ClaOk (X : Cx) : List ExceptHandler → List Cla → Prop
  | nil : ClaOk X [] []
  | named {x n : Str} {k : Value} {i : Nat} {ts : Addr → Value → Option Addr → TS} {b0 : Stmt} {su : List Stmt} {q1 q2 : Pos} {hl : List ExceptHandler} {l : List Cla} (nm : Names X x k) (hi : X.N[i]? = some n) (lc : X.env.kindOf n = some .local)
      (ok : ∀ (a : Addr) (oe : Obj) (cls : Value) (d : Option Addr) (pn : List (Addr × Obj)), Zc cls d oe → (∃ vs, oe.data = .fields vs) → PSs (X.suite a ((a, oe) :: pn)) (b0 :: su) (ts a cls d)) (r : ClaOk X hl l) :
      ClaOk X (.ExceptHandler (some (.Name x q1)) (some n) (b0 :: su) q2 :: hl) ((k, some i, ts) :: l)
  | bare {x : Str} {k : Value} {ts : Addr → Value → Option Addr → TS} {b0 : Stmt} {su : List Stmt} {q1 q2 : Pos} {hl : List ExceptHandler} {l : List Cla} (nm : Names X x k)
      (ok : ∀ (a : Addr) (oe : Obj) (cls : Value) (d : Option Addr) (pn : List (Addr × Obj)), Zc cls d oe → (∃ vs, oe.data = .fields vs) → PSs (X.suite a ((a, oe) :: pn)) (b0 :: su) (ts a cls d)) (r : ClaOk X hl l) :
      ClaOk X (.ExceptHandler (some (.Name x q1)) none (b0 :: su) q2 :: hl) ((k, none, ts) :: l)
variable {X : Cx} {body : List Stmt} {h1 : ExceptHandler} {hl : List ExceptHandler} {l : List Cla} {pos : Pos} {tb : WX → TS} {Wout : WX}
theorem ps_try_cla (hst : X.stack = X.env :: X.outer) (hf : X.env.frame = some X.env.locals) (nd : X.N.Nodup) (tk : Takes X Wout)
    (hb : ∀ (Wi : WX) (pn : List (Addr × Obj)) (xe : Value → Shared → Prop), Takes (X.tr pn xe) Wi → PassesOwn (model X.prog X.w) X.A X.env xe → PSs (X.tr pn xe) body (tb Wi)) (hc : ClaOk X (h1 :: hl) l) :
    PS X (.Try body (h1 :: hl) [] [] pos) (fun D s h => tb (wCla X.K Wout D l) D s h) := by
  refine ⟨fun pins sv τ H0 D I hh => ?_⟩
  have okX := I.ok
  have fr : X.A.frames = some (X.env :: X.outer) := okX.frames.trans (congrArg some hst)
  refine wpAny_Try_except ?_
  obtain ⟨Xe, hXe⟩ : ∃ Xe : Value → Shared → Prop, Xe = fun x z => wpAny (model X.prog X.w) X.A (noteFrame x X.env) (fun _ z2 => wpAny (model X.prog X.w) X.A (setFlight x none) (fun _ z3 => wpAny (model X.prog X.w) X.A (handleBy x X.env (h1 :: hl)) (SP X pins D) X.xe z3) X.xe z2) X.xe z := ⟨_, rfl⟩
  have tkb : Takes (X.tr (X.pn ++ pins) Xe) (wCla X.K Wout D l) := fun u z xx => by
    obtain ⟨a, B, zI, pinsB, τb, Hb, cls, d, eu, Jb, nb, up, sky, na, os, ag, wish⟩ := xx
    subst eu
    have J : Inv X pins τb Hb zI := Jb.ofTry okX
    have skyX : Sky B (X.env :: X.outer) a (Zc cls d) X.env.locals z.heap := hst ▸ sky
    show Xe (.ref a) z
    rw [hXe]
    show wpAny _ _ (noteFrame (.ref a) X.env) _ _ _
    refine skyX.land Zc.steady fr hf fun hp fl upp => ?_
    have J3 : Inv X pins τb Hb { z with heap := hp } := J.landed nb fl.1 (up.trans upp) os ag
    obtain ⟨ob, fs, eob, zob, dob⟩ := fl.there
    have off : a ∉ frs (X.env :: X.outer) := fun m => by
      obtain ⟨_, o2, e2, no⟩ := (fl.2.2.1).mem m
      rw [eob] at e2
      cases e2
      exact no _ dob
    have nL : a ≠ X.env.locals := fun q => off (List.mem_filterMap.mpr ⟨X.env, List.mem_cons_self, by rw [hf, q]⟩)
    have nF : a ∉ X.fs := fun m => by
      obtain ⟨v, hv, q⟩ := List.mem_filterMap.mp m
      exact off (List.mem_filterMap.mpr ⟨v, List.mem_cons_of_mem _ hv, q⟩)
    have S3 := J3.suite eob dob na nL nF
    have cl : ∀ {hs : List ExceptHandler} {ls : List Cla}, ClaOk X hs ls → wCla X.K Wout D ls cls d τb Hb → wpAny (model X.prog X.w) X.A (handleBy (.ref a) X.env hs) (SP X pins D) X.xe { z with heap := hp } := by
      intro hs ls kk
      induction kk with
      | nil =>
        intro wi
        refine wpAny_handleBy_nil ?_
        obtain ⟨_, _, _, o4, f4, T, oT, t4, g4, z4, d4, h4, _⟩ := id fl
        unfold PySem.passOn
        refine wpAny_bind (wpAny_field g4 d4 h4 ?_)
        rw [if_neg (show ¬ ((Value.ref T == Value.none) = true) by simp)]
        have out : wpAny (model X.prog X.w) X.A (setFlight (.ref a) X.env.frame) (fun _ y => wpAny (model X.prog X.w) X.A (throw (.ref a) : Sem Flow) (SP X pins D) X.xe y) X.xe { z with heap := hp } := by
          rw [hf]
          refine HandSPX.setFlight_upZ fl fun h5 fly up5 => wpAny_throw (tk _ _ ?_)
          exact ⟨a, B, zI, pins, τb, Hb, cls, d, rfl, J, nb, (up.trans upp).trans up5, .inr (.inr (by rw [hst]; exact fly)), na, os, ag, wi⟩
        first
          | exact wpAny_bind (wpAny_pure (wpAny_bind out))
          | exact wpAny_bind out
      | @named x n k i ts b0 su q1 q2 hs2 l2 nm hi lc okS r ih =>
        intro wi
        obtain ⟨b, eb, yes, no⟩ := wi
        refine wpAny_handleBy_cons (codeAny_handlers_test ?_) (fun q => by cases q)
        have ty : PySem.W.Looks (model X.prog X.w) hp (typeOf (.ref a)) cls := fun A Q E y kp q => wpAny_typeOf_ref (kp _ _ eob) (by rw [zob.1]; exact q)
        have ex := PySem.W.exm_one (M := model X.prog X.w) J3.kIn ty eb
        have name : ∀ {Q E : Value → Shared → Prop}, Q k { z with heap := hp } → wpAny (model X.prog X.w) (X.A.mark (some (.ref a))) (eval (.Name x q1) X.env) Q E { z with heap := hp } := fun {Q E} q => by
          rcases nm with ⟨gl, db, m | ⟨m, bv, nn⟩⟩
          · exact ld_glob (X := X.suite a ((a, ob) :: (X.pn ++ pins))) S3 gl m q db
          · exact ld_blt (X := X.suite a ((a, ob) :: (X.pn ++ pins))) S3 gl m bv q nn db
        refine name (ex.here ?_)
        cases b with
        | false => exact ih (no rfl)
        | true =>
          refine codeAny_handlers_suite_as ?_
          refine HandSPX.lands_againZ fl fun h6 fl6 up6 => ?_
          have J6 : Inv X pins τb Hb { z with heap := h6 } := J.landed nb fl6.1 ((up.trans upp).trans up6) os ag
          obtain ⟨o6, f6, e6, z6, d6⟩ := fl6.there
          refine store_ok (X := X.suite a ((a, o6) :: (X.pn ++ pins))) (v := V.ref a) (J6.suite e6 d6 na nL nF) nd hi (.inl lc) rfl (fun y S7 => ?_) (.inr lc)
          refine wpAny_mono ((okS a o6 cls d (X.pn ++ pins) z6 ⟨_, d6⟩).run [] y _ Hb _ S7 (yes rfl a na)) (fun fw y6 sp => ?_) (fun _ _ q => q.elim)
          have unb : ∀ {τ6 : L2.St} {H6 : Hp} {Q : Shared → Prop}, Inv (X.suite a ((a, o6) :: (X.pn ++ pins))) [] τ6 H6 y6 → (∀ y7, Inv X pins (τ6.set i none) H6 y7 → Q y7) →
              wpAny (model X.prog X.w) X.A (do bindName X.env n .none; unbindBehindTheSuite X.env n q2) (fun _ y7 => Q y7) X.xe y6 := fun {τ6 H6 Q} S6 hq => gone_ok (S6.unsuite okX) nd hi lc hq
          cases fw with
          | next => exact let ⟨_, _, S6, q6⟩ := sp; unb S6 fun _ J7 => ⟨_, _, J7, q6⟩
          | brk => exact let ⟨_, _, S6, q6⟩ := sp; unb S6 fun _ J7 => ⟨_, _, J7, q6⟩
          | cont => exact let ⟨_, _, S6, q6⟩ := sp; unb S6 fun _ J7 => ⟨_, _, J7, q6⟩
          | ret v => exact let ⟨_, _, _, S6, r6, q6⟩ := sp; unb S6 fun _ J7 => ⟨_, _, _, J7, r6, q6⟩
      | @bare x k ts b0 su q1 q2 hs2 l2 nm okS r ih =>
        intro wi
        obtain ⟨b, eb, yes, no⟩ := wi
        refine wpAny_handleBy_cons (codeAny_handlers_test ?_) (fun q => by cases q)
        have ty : PySem.W.Looks (model X.prog X.w) hp (typeOf (.ref a)) cls := fun A Q E y kp q => wpAny_typeOf_ref (kp _ _ eob) (by rw [zob.1]; exact q)
        have ex := PySem.W.exm_one (M := model X.prog X.w) J3.kIn ty eb
        have name : ∀ {Q E : Value → Shared → Prop}, Q k { z with heap := hp } → wpAny (model X.prog X.w) (X.A.mark (some (.ref a))) (eval (.Name x q1) X.env) Q E { z with heap := hp } := fun {Q E} q => by
          rcases nm with ⟨gl, db, m | ⟨m, bv, nn⟩⟩
          · exact ld_glob (X := X.suite a ((a, ob) :: (X.pn ++ pins))) S3 gl m q db
          · exact ld_blt (X := X.suite a ((a, ob) :: (X.pn ++ pins))) S3 gl m bv q nn db
        refine name (ex.here ?_)
        cases b with
        | false => exact ih (no rfl)
        | true =>
          refine codeAny_handlers_suite ?_
          refine HandSPX.lands_againZ fl fun h6 fl6 up6 => ?_
          have J6 : Inv X pins τb Hb { z with heap := h6 } := J.landed nb fl6.1 ((up.trans upp).trans up6) os ag
          obtain ⟨o6, f6, e6, z6, d6⟩ := fl6.there
          refine wpAny_mono ((okS a o6 cls d (X.pn ++ pins) z6 ⟨_, d6⟩).run [] _ _ Hb _ (J6.suite e6 d6 na nL nF) (yes rfl a na)) (fun fw y6 sp => ?_) (fun _ _ q => q.elim)
          cases fw with
          | next => exact let ⟨_, _, S6, q6⟩ := sp; ⟨_, _, S6.unsuite okX, q6⟩
          | brk => exact let ⟨_, _, S6, q6⟩ := sp; ⟨_, _, S6.unsuite okX, q6⟩
          | cont => exact let ⟨_, _, S6, q6⟩ := sp; ⟨_, _, S6.unsuite okX, q6⟩
          | ret v => exact let ⟨_, _, _, S6, r6, q6⟩ := sp; ⟨_, _, _, S6.unsuite okX, r6, q6⟩
    exact cl hc wish
  have pass : PassesOwn (model X.prog X.w) X.A X.env Xe := by rw [hXe]; exact PassesOwn.looking
  refine wpAny_mono ((hb (wCla X.K Wout D l) (X.pn ++ pins) Xe tkb pass).run [] sv τ H0 D (I.toTry _) hh) (fun fw z sp => ?_) (fun x z q => by rw [hXe] at q; exact q)
  cases fw with
  | next => exact let ⟨_, _, J2, q⟩ := sp; wpAny_execs_nil ⟨_, _, J2.ofTry okX, q⟩
  | brk => exact let ⟨_, _, J2, q⟩ := sp; ⟨_, _, J2.ofTry okX, q⟩
  | cont => exact let ⟨_, _, J2, q⟩ := sp; ⟨_, _, J2.ofTry okX, q⟩
  | ret v => exact let ⟨_, _, _, J2, r, q⟩ := sp; ⟨_, _, _, J2.ofTry okX, r, q⟩
end
abbrev MC := (Nat → Option Bool) × Option Nat × (PX → SM)
noncomputable def mCla : List MC → PX → SM
  | [], e => fun σ h => .xc e σ h
  | q :: r, e => fun σ h => match q.1 e.C with
    | some true => unb q.2.1 (q.2.2 e (seti q.2.1 σ) h)
    | some false => mCla r e σ h
    | none => .bad
noncomputable def sTryM (l : List MC) (mb : SM) : SM := fun σ h => match mb σ h with
  | .xc e σ' h' => mCla l e σ' h'
  | r => r
theorem sTryM_def (l : List MC) (mb : SM) (σ : LS) (h : VH) : sTryM l mb σ h = (match mb σ h with
  | .xc e σ' h' => mCla l e σ' h'
  | r => r) := rfl
theorem sTryM_nx {l : List MC} {mb : SM} {σ σ' : LS} {h h' : VH} (e : mb σ h = .nx σ' h') : sTryM l mb σ h = .nx σ' h' := by rw [sTryM_def, e]
theorem sTryM_rt {l : List MC} {mb : SM} {σ : LS} {h h' : VH} {v : PV} (e : mb σ h = .rt v h') : sTryM l mb σ h = .rt v h' := by rw [sTryM_def, e]
theorem sTryM_xc {l : List MC} {mb : SM} {σ σ' : LS} {h h' : VH} {x : PX} (e : mb σ h = .xc x σ' h') : sTryM l mb σ h = mCla l x σ' h' := by rw [sTryM_def, e]
theorem mCla_yes {q : MC} {r : List MC} {e : PX} {σ : LS} {h : VH} (b : q.1 e.C = some true) : mCla (q :: r) e σ h = unb q.2.1 (q.2.2 e (seti q.2.1 σ) h) := by unfold mCla; simp only [b]
theorem mCla_no {q : MC} {r : List MC} {e : PX} {σ : LS} {h : VH} (b : q.1 e.C = some false) : mCla (q :: r) e σ h = mCla r e σ h := by conv => lhs; unfold mCla; simp only [b]
section
variable {c : Ck} {X : Cx}
/-- the clauses' derivations -/
inductive MClaOk (c : Ck) (X : Cx) : List ExceptHandler → List MC → Prop
  | nil : MClaOk c X [] []
  | named {x n : Str} {k : Value} {i : Nat} {sub : Nat → Option Bool} {ms : PX → SM} {b0 : Stmt} {su : List Stmt} {q1 q2 : Pos} {hl : List ExceptHandler} {l : List MC} (nm : Names X x k) (hi : X.N[i]? = some n) (lc : X.env.kindOf n = some .local)
      (hsub : ∀ C b, sub C = some b → PySem.W.exmOne X.K (.ref (c C)) k = some b)
      (ok : ∀ (a dd : Addr) (e : PX) (oe : Obj) (pn : List (Addr × Obj)), Zc (.ref (c e.C)) (some dd) oe → (∃ vs, oe.data = .fields vs) → SS (c.exc a dd e) (X.suite a ((a, oe) :: pn)) W0 (b0 :: su) (ms e)) (r : MClaOk c X hl l) :
      MClaOk c X (.ExceptHandler (some (.Name x q1)) (some n) (b0 :: su) q2 :: hl) ((sub, some i, ms) :: l)
  | bare {x : Str} {k : Value} {sub : Nat → Option Bool} {ms : PX → SM} {b0 : Stmt} {su : List Stmt} {q1 q2 : Pos} {hl : List ExceptHandler} {l : List MC} (nm : Names X x k)
      (hsub : ∀ C b, sub C = some b → PySem.W.exmOne X.K (.ref (c C)) k = some b)
      (ok : ∀ (a dd : Addr) (e : PX) (oe : Obj) (pn : List (Addr × Obj)), Zc (.ref (c e.C)) (some dd) oe → (∃ vs, oe.data = .fields vs) → SS (c.exc a dd e) (X.suite a ((a, oe) :: pn)) W0 (b0 :: su) (ms e)) (r : MClaOk c X hl l) :
      MClaOk c X (.ExceptHandler (some (.Name x q1)) none (b0 :: su) q2 :: hl) ((sub, none, ms) :: l)
theorem MClaOk.cla (hx0 : c.ex = none) {hl : List ExceptHandler} {l : List MC} (m : MClaOk c X hl l) : ∃ l', ClaOk X hl l' ∧
    ∀ (g : Gh) (n : Nat) (g' : Gh) (σ : LS) (h : VH) (τ : L2.St) (H : Hp) (D : Ends) (W : WX) (e : PX) (cls : Value) (d : Option Addr), g.le n g' → n ≤ h.length → RelH (kx c X) g' h H → RelS (kx c X) g' h.length σ τ → RepX (kx c X) g' h.length e cls d H →
      PostS (kx c X) g n D W (mCla l e σ h) → wCla X.K W D l' cls d τ H := by
  induction m with
  | nil => exact ⟨[], .nil, fun g n g' σ h τ H D W e cls d l hn rh rs rx q => q g' cls d τ H l hn rh rs rx⟩
  | @named x n k i sub ms b0 su q1 q2 hl l nm hi lc hsub ok r ih =>
    obtain ⟨l', cl, sem⟩ := ih
    refine ⟨_, .named nm hi lc (su_pss ok) cl, fun g n g' σ h τ H D W e cls d l hn rh rs rx q => ?_⟩
    obtain ⟨cc, ex⟩ := c
    dsimp only at hx0
    subst hx0
    obtain ⟨ec, dd, gs, ed, hd, rf⟩ := id rx
    cases hb : sub e.C with
    | none => unfold mCla at q; simp only [hb] at q; exact q.elim
    | some b =>
      cases b with
      | true =>
        rw [mCla_yes hb] at q
        subst ec ed
        refine ⟨true, hsub _ _ hb, fun _ a na => ⟨e, dd, rfl, rfl, g', σ.set i (some .exn), h, ?_, rh.enter hd rf, unb_post (PostS.up q l hn)⟩, fun z => by cases z⟩
        exact (RelS.enter rs).set i (by simp only [Rep]; exact ⟨a, dd, e, rfl, rfl⟩)
      | false =>
        rw [mCla_no hb] at q
        refine ⟨false, by rw [ec]; exact hsub _ _ hb, fun z => (by cases z), fun _ => sem g n g' σ h τ H D W e cls d l hn rh rs rx q⟩
  | @bare x k sub ms b0 su q1 q2 hl l nm hsub ok r ih =>
    obtain ⟨l', cl, sem⟩ := ih
    refine ⟨_, .bare nm (su_pss ok) cl, fun g n g' σ h τ H D W e cls d l hn rh rs rx q => ?_⟩
    obtain ⟨cc, ex⟩ := c
    dsimp only at hx0
    subst hx0
    obtain ⟨ec, dd, gs, ed, hd, rf⟩ := id rx
    cases hb : sub e.C with
    | none => unfold mCla at q; simp only [hb] at q; exact q.elim
    | some b =>
      cases b with
      | true =>
        rw [mCla_yes hb] at q
        subst ec ed
        exact ⟨true, hsub _ _ hb, fun _ a na => ⟨e, dd, rfl, rfl, g', σ, h, RelS.enter rs, rh.enter hd rf, unb_post (o := none) (PostS.up q l hn)⟩, fun z => by cases z⟩
      | false =>
        rw [mCla_no hb] at q
        refine ⟨false, by rw [ec]; exact hsub _ _ hb, fun z => (by cases z), fun _ => sem g n g' σ h τ H D W e cls d l hn rh rs rx q⟩
theorem S1.tryM {body : List Stmt} {h1 : ExceptHandler} {hl : List ExceptHandler} {l : List MC} {pos : Pos} {mb : SM} {Wout : WX} (hx0 : c.ex = none) (hs : X.stack = X.env :: X.outer) (hf : X.env.frame = some X.env.locals) (hN : X.N.Nodup) (tk : Takes X Wout)
    (hb : ∀ (W : WX) (pn : List (Addr × Obj)) (xe : Value → Shared → Prop), Takes (X.tr pn xe) W → PassesOwn (model X.prog X.w) X.A X.env xe → SS c (X.tr pn xe) W body mb)
    (m : MClaOk c X (h1 :: hl) l) : S1 c X Wout (.Try body (h1 :: hl) [] [] pos) (sTryM l mb) := by
  obtain ⟨l', cl, sem⟩ := m.cla hx0
  refine ⟨_, ps_try_cla (tb := fun W => tsOf (kx c X) W mb) hs hf hN tk (fun W pn xe t p => (hb W pn xe t p).pss) cl, fun g σ h τ H D rs rh q => ⟨g, σ, h, rs, rh, ?_⟩⟩
  rw [sTryM_def] at q
  generalize mb σ h = r at q ⊢
  cases r with
  | nx σ' h' => exact q
  | bk σ' h' => exact q
  | ct σ' h' => exact q
  | rt v h' => exact q
  | bad => exact q
  | xc e σ' h' => exact fun g' cls d τ' H' l hn rh' rs' rx => sem g h.length g' σ' h' τ' H' D Wout e cls d l hn rh' rs' rx q
end
end Pm
namespace Pm
open PySem PySem.Spec L2 PyProof.Rows
/-! ### range with a step -/
def srcRng3 : List PV → VH → Res Src
  | [.int i, .int j, .int c], h => if c ≠ 0 ∧ c.natAbs < 1073741824 ∧ Builtin.Range.small i j c = true ∧ Builtin.Range.rangeSize i j c = ((Builtin.Range.rangeSize i j c).toNat : Int) then .ok ⟨stepI i c (Builtin.Range.rangeSize i j c).toNat, []⟩ h else .bad
  | _, _ => .bad
theorem rng3_ok {K : Kc} {g : Gh} {h : VH} {lo c : Int} {n : Nat} : SrcOk K g h.length ⟨stepI lo c n, []⟩ (Itc lo c n) := by
  refine ⟨_, _, by rw [stepI_length]; exact walk_rangeC, fun _ _ _ _ _ _ _ => trivial, fun i x g' h' H' H2 l hn rh' _ hx u hu => ?_⟩
  obtain ⟨rfl, rfl⟩ := hu
  refine ⟨g', Gh.le.refl _ _, rh', ?_⟩
  have hx : (stepI lo c n)[i]? = some x := hx
  simp only [stepI, List.getElem?_map] at hx
  by_cases hi : i < n
  · rw [List.getElem?_range hi] at hx
    cases hx
    exact repI
  · rw [List.getElem?_eq_none (by simpa using hi)] at hx
    cases hx
def iRng3s (ms : AM) : LS → VH → Res Src := fun σ h => (ms σ h).bind srcRng3
theorem iRng3s_def (ms : AM) (σ : LS) (h : VH) : iRng3s ms σ h = (ms σ h).bind srcRng3 := rfl
section
variable {c : Ck} {X : Cx} {W : WX} {tg e e2 e3 : Expr} {ms : AM} {p pos : Pos}
theorem SI.range3 (hg : Gl X "range") (hm : X.mg "range" = none) (ha : SA c X W [e, e2, e3] ms)
    (hs : starEach [e, e2, e3] X.env = (false, eval e X.env) :: starEach [e2, e3] X.env := by rfl) (hs2 : (backTo pos (starEach [e2, e3] X.env)).any (·.1) = false := by rfl) : SI c X W tg (.Call (.Name "range" p) [e, e2, e3] [] pos) (iRng3s ms) := by
  obtain ⟨la, t, pa, s⟩ := ha
  refine ⟨_, pi_range3 hg hm pa hs hs2, fun g σ h τ H R rs rh q => s g σ h τ H _ rs rh ?_⟩
  dsimp only [iRng3s] at q
  generalize ms σ h = res at q
  cases res with
  | ok xs h' =>
    intro g1 us H1 l hn rh1 ru
    have q1 := Post.up q l hn
    rw [Res.bind_ok] at q1
    unfold srcRng3 at q1
    split at q1
    · split at q1
      · rename_i hz
        obtain ⟨u, v, w, rfl, r1, r2, r3⟩ := ru.three
        simp only [Rep] at r1 r2 r3
        exact ⟨_, _, _, _, by rw [r1, r2, r3], hz, Post.go (E := at_ W τ) q1 rh1 rng3_ok⟩
      · exact q1.elim
    · exact q1.elim
  | exc e' h' => exact q
  | bad => exact q
end
end Pm
namespace Pm
open PySem PySem.Spec L2 PyProof.Rows
/-! ### zip of a tuple and a list -/
section
abbrev znA (h : Heap) (l1 : Addr) : Heap := h.push { cls := .type "list_iterator", data := .fields #[.ref l1, .int 0 0] }
abbrev znB (h : Heap) (l1 l2 : Addr) : Heap := (znA h l1).push { cls := .type "tuple_iterator", data := .fields #[.ref l2, .int 0 0] }
abbrev znC (h : Heap) (l1 l2 : Addr) : Heap := (znB h l1 l2).push { cls := .type "tuple", data := .seq #[.ref h.objs.size, .ref (znA h l1).objs.size] }
abbrev znD (h : Heap) (l1 l2 : Addr) : Heap := (znC h l1 l2).push { cls := .type "tuple", data := .seq #[.none, .none] }
abbrev znE (h : Heap) (l1 l2 : Addr) : Heap := (znD h l1 l2).push { cls := .type "zip", data := .fields #[.none, .bool false, .bool false, .ref (znB h l1 l2).objs.size, .ref (znC h l1 l2).objs.size] }
theorem meets_zipLT (l1 l2 : Addr) (xs ys : Array Value) :
    Meets (Builtin.«zip.__new__» ⟨[.type "zip", .ref l1, .ref l2], []⟩) (fun _ R s => s.heap.IsList l1 xs ∧ s.heap.IsTuple l2 ys ∧ R (.ok (.ret (.ref (znD s.heap l1 l2).objs.size))) { s with heap := znE s.heap l1 l2 }) :=
  .of_wp fun prog w A R s h => by
    obtain ⟨hp, g, d, tk, os⟩ := s
    obtain ⟨a1, a2, a3⟩ := h
    have hsub := sub_zip
    have b1 : Heap.IsList (Shared.heap ⟨hp, g, d, tk, os⟩) l1 xs := a1
    have b2 : Heap.IsTuple (Shared.heap ⟨znA hp l1, g, d, tk, os⟩) l2 ys := Heap.IsTuple.push a2 _
    wp_walk using wpAny_pyIter_list b1, wpAny_pyIter_tuple b2
    exact ⟨_, rfl, a3⟩
variable {prog : Program} {w : World} {A : Around} {E : Value → Shared → Prop} {s : Shared}
theorem call_zipLT {l1 l2 : Addr} {xs ys : Array Value} {Q : Value → Shared → Prop} (a1 : s.heap.IsList l1 xs) (a2 : s.heap.IsTuple l2 ys)
    (h : ∀ h', IsZip h' (s.heap.objs.size + 4) (s.heap.objs.size + 2) (s.heap.objs.size + 3) .none → IsPair h' (s.heap.objs.size + 2) (.ref s.heap.objs.size) (.ref (s.heap.objs.size + 1)) → IsPair h' (s.heap.objs.size + 3) .none .none →
      h'.IsListIter s.heap.objs.size l1 0 → h'.IsTupleIter (s.heap.objs.size + 1) l2 0 → (∀ c o, s.heap.get? c = some o → h'.get? c = some o) → Q (.ref (s.heap.objs.size + 4)) { s with heap := h' }) :
    wpAny (model prog w) A (call (.type "zip") [.ref l1, .ref l2]) Q E s := by
  refine callType_new F.called_zip (by decide) (F.typeCall_zip_2 _ _) (F.newCall_zip_2 _ _) (fun obj => F.args_object_init_3 obj _ _) F.entry_zip_new (meets_zipLT l1 l2 xs ys) ⟨a1, a2, ?_⟩
  have zA : (znA s.heap l1).objs.size = s.heap.objs.size + 1 := Heap.size_push ..
  have zB : (znB s.heap l1 l2).objs.size = s.heap.objs.size + 2 := by rw [Heap.size_push, zA]
  have zC : (znC s.heap l1 l2).objs.size = s.heap.objs.size + 3 := by rw [Heap.size_push, zB]
  have zD : (znD s.heap l1 l2).objs.size = s.heap.objs.size + 4 := by rw [Heap.size_push, zC]
  have up : ∀ {h : Heap} {o o' : Obj} {c : Addr}, h.get? c = some o → (h.push o').get? c = some o := fun e => Heap.get?_push_of_some _ e
  have gE : (znE s.heap l1 l2).get? (znD s.heap l1 l2).objs.size = some _ := Heap.get?_push_size _ rfl
  have gD : (znE s.heap l1 l2).get? (znC s.heap l1 l2).objs.size = some _ := up (Heap.get?_push_size _ rfl)
  have gC : (znE s.heap l1 l2).get? (znB s.heap l1 l2).objs.size = some _ := up (up (Heap.get?_push_size _ rfl))
  have gB : (znE s.heap l1 l2).get? (znA s.heap l1).objs.size = some _ := up (up (up (Heap.get?_push_size _ rfl)))
  have gA : (znE s.heap l1 l2).get? s.heap.objs.size = some _ := up (up (up (up (Heap.get?_push_size _ rfl))))
  show _ ∧ _
  rw [zB, zC, zD] at gE
  rw [zA, zB] at gC
  rw [zC] at gD
  rw [zA] at gB
  rw [zD]
  exact ⟨⟨_, gE, rfl⟩, h _ gE gC gD ⟨_, gA, rfl, rfl⟩ ⟨_, gB, rfl, rfl⟩ fun c o e => up (up (up (up (up e))))⟩
end
/-- a list at a, a list at b, the items in new pairs -/
def ItzLT (K : PySem.W.Frag) (a b : Addr) : It :=
  ⟨fun i H => ∃ (xs ys : List V) (x y : V), SqL K H a xs ∧ SqT K H b ys ∧ xs[i]? = some x ∧ ys[i]? = some y,
    fun i H v H' => ∃ T x y, v = .ref T ∧ H T = none ∧ H' = upd H T (.tup [x, y]) ∧ (∀ xs, SqL K H a xs → xs[i]? = some x) ∧ ∀ ys, SqT K H b ys → ys[i]? = some y,
    fun i H => ∃ xs ys : List V, SqL K H a xs ∧ SqT K H b ys ∧ (xs.length ≤ i ∨ ys.length ≤ i)⟩
theorem turn_zipLT {P : Program} {w : World} {K : PySem.W.Frag} {elts : List Expr} {kk : Nat} {tpos : Pos} {a b z TI TO i1 i2 : Addr} (D : ZipApart z TI TO i1 i2 a b) :
    L2.Turn P w K (.Tuple elts kk tpos) (ItzLT K a b) [z, TI, TO, i1, i2] z (fun i h => IsZip h z TI TO .none ∧ IsPair h TI (.ref i1) (.ref i2) ∧ (∃ x y, IsPair h TO x y) ∧ h.IsListIter i1 a i ∧ h.IsTupleIter i2 b i) where
  mem := by simp
  obj := fun i h st c hc => by
    obtain ⟨hz, hTI, ⟨x, y, hTO⟩, ⟨o1, e1, _, d1⟩, ⟨o2, e2, _, d2⟩⟩ := st
    simp only [List.mem_cons, List.not_mem_nil, or_false] at hc
    rcases hc with rfl | rfl | rfl | rfl | rfl
    · exact ⟨_, hz, fun v q => nomatch q⟩
    · exact ⟨_, hTI, fun v q => nomatch q⟩
    · exact ⟨_, hTO, fun v q => nomatch q⟩
    · exact ⟨o1, e1, fun v q => by rw [d1] at q; cases q⟩
    · exact ⟨o2, e2, fun v q => by rw [d2] at q; cases q⟩
  keep := fun i h h' ⟨hz, hTI, ⟨x, y, hTO⟩, h1, h2⟩ k => ⟨k z (by simp) _ hz, k TI (by simp) _ hTI, ⟨x, y, k TO (by simp) _ hTO⟩, h1.at fun o q => k i1 (by simp) o q, h2.at fun o q => k i2 (by simp) o q⟩
  item := by
    intro X hP hw hK hc i pins s σ H E I hf st hg
    subst hP hw hK
    obtain ⟨hz, hTI, ⟨x0, y0, hTO⟩, h1, h2⟩ := st
    obtain ⟨xs, ys, x, y, qx, qy, hx, hy⟩ := hg
    obtain ⟨its, rv, pp, _⟩ := I.list qx
    obtain ⟨its2, rv2, pp2, _⟩ := I.tuple qy
    obtain ⟨u, hu, ru⟩ := rv.get hx
    obtain ⟨u2, hu2, ru2⟩ := rv2.get hy
    have zlt : z < s.heap.objs.size := Heap.lt_size hz
    refine pyNextG_item (E := E) D (itr_list D.l1i1) (itr_tuple D.l2i2) hz hTI hTO ⟨h1, pp.isList⟩ ⟨h2, pp2⟩ (x := u) (y := u2) (by simpa using hu) (by simpa using hu2) fun h' z' TO' s1 s2 hT hsz hk => ?_
    refine ⟨_, rfl, wpAny_letOwnedTupleGo_zip (s := { s with heap := h' }) z' fun h'' z'' sb => ?_⟩
    have hT2 : h''.get? s.heap.objs.size = some { cls := .type "tuple", data := .seq #[u, u2] } := (sb.2 _ (Nat.ne_of_gt zlt)).trans hT
    have new : ObjOk X.prog X.w (upd H s.heap.objs.size (.tup [x, y])) h'' s.heap.objs.size (.tup [x, y]) :=
      ⟨by show 2 ≤ sizeLine; decide, [u, u2], .cons ru (.cons ru2 .nil), ⟨_, hT2, rfl, _, rfl⟩⟩
    have ne : ∀ c, c ∉ [z, TI, TO, i1, i2] → c ≠ z ∧ c ≠ TO ∧ c ≠ i1 ∧ c ≠ i2 := fun c hb => by
      simp only [List.mem_cons, List.not_mem_nil, or_false, not_or] at hb
      exact ⟨hb.1, hb.2.2.1, hb.2.2.2.1, hb.2.2.2.2⟩
    have I1 : Inv X pins σ (upd H s.heap.objs.size (.tup [x, y])) { s with heap := h'' } :=
      I.turnedNew (t' := s.toks) (ch := [z, TI, TO, i1, i2]) (fun c o hb q => (sb.2 c (ne c hb).1).trans (hk c o (ne c hb).1 (ne c hb).2.1 (ne c hb).2.2.1 (ne c hb).2.2.2 q)) hf (Nat.le_refl _) new
    refine ⟨.ref s.heap.objs.size, _, I1, rfl, ⟨_, x, y, rfl, I.hok.fresh (Nat.le_refl _), rfl, fun l hl => by rw [I.list_inj hl qx]; exact hx, fun l hl => by rw [I.tuple_inj hl qy]; exact hy⟩, ⟨z'', ?_, ⟨u, u2, ?_⟩, ?_, ?_⟩, fun c hcm => ?_⟩
    · exact (sb.2 _ D.TIz).trans (hk _ _ D.TIz D.TITO D.TIi1 D.TIi2 hTI)
    · exact (sb.2 _ D.TOz).trans TO'
    · exact s1.1.at fun o q => (sb.2 _ D.i1z).trans q
    · exact s2.1.at fun o q => (sb.2 _ D.i2z).trans q
    · have hlt : c < s.heap.objs.size := by
        simp only [List.mem_cons, List.not_mem_nil, or_false] at hcm
        rcases hcm with rfl | rfl | rfl | rfl | rfl
        · exact zlt
        · exact Heap.lt_size hTI
        · exact Heap.lt_size hTO
        · obtain ⟨_, e1, _⟩ := h1; exact Heap.lt_size e1
        · obtain ⟨_, e2, _⟩ := h2; exact Heap.lt_size e2
      rw [upd_ne (Nat.ne_of_lt hlt)]
      exact (hf c hcm).1
  done := by
    intro X hP hw hK hc i pins s σ H E I hf st hg
    subst hP hw hK
    obtain ⟨hz, hTI, ⟨x0, y0, hTO⟩, h1, h2⟩ := st
    obtain ⟨xs, ys, qx, qy, hend⟩ := hg
    obtain ⟨its, rv, pp, _⟩ := I.list qx
    obtain ⟨its2, rv2, pp2, _⟩ := I.tuple qy
    have l1 := rv.length
    have l2 := rv2.length
    have he : its.toArray[i]? = none ∨ its2.toArray[i]? = none := by
      rcases hend with q | q
      · exact .inl (by simp; omega)
      · exact .inr (by simp; omega)
    have ne : ∀ c, c ∉ [z, TI, TO, i1, i2] → c ≠ z ∧ c ≠ TO ∧ c ≠ i1 ∧ c ≠ i2 := fun c hb => by
      simp only [List.mem_cons, List.not_mem_nil, or_false, not_or] at hb
      exact ⟨hb.1, hb.2.2.1, hb.2.2.2.1, hb.2.2.2.2⟩
    exact pyNextG_end (I.ok.hd hc) D (itr_list D.l1i1) (itr_tuple D.l2i2) hz hTI hTO ⟨h1, pp.isList⟩ ⟨h2, pp2⟩ he fun h' hk => ⟨rfl, I.turnedL (t' := s.toks) (ch := [z, TI, TO, i1, i2]) (fun c o hb q => hk c o (ne c hb).1 (ne c hb).2.1 (ne c hb).2.2.1 (ne c hb).2.2.2 q) hf⟩
  self := fun A i s Q E st h => wpAny_pyIter_zip st.1 h
end Pm
namespace Pm
open PySem PySem.Spec L2 PyProof.Rows
/-! ### zip of two lists, two tuples, or a tuple and a list -/
def iZipN (K : PySem.W.Frag) (ta : TA) : TI := fun σ H R => ta σ H fun vs H1 => ∃ a b xs ys, vs = [.ref a, .ref b] ∧ ((SqL K H1 a xs ∧ SqL K H1 b ys ∧ R (Itz K a b) H1) ∨ (SqT K H1 a xs ∧ SqT K H1 b ys ∧ R (RZ.ItzT K a b) H1) ∨ (SqL K H1 a xs ∧ SqT K H1 b ys ∧ R (ItzLT K a b) H1))
theorem pi_zipN {X : Cx} {e e2 : Expr} {ta : TA} {p pos tpos : Pos} {elts : List Expr} {kk : Nat} (hg : Gl X "zip") (hm : X.mg "zip" = none) (ha : PA X [e, e2] ta)
    (hs : starEach [e, e2] X.env = (false, eval e X.env) :: starEach [e2] X.env := by rfl) (hpl : (backTo pos (starEach [e2] X.env)).any (·.1) = false := by rfl) :
    PI X (.Tuple elts kk tpos) (.Call (.Name "zip" p) [e, e2] [] pos) (iZipN X.K ta) := by
  refine ⟨fun pins s σ H R I h => ?_⟩
  refine Call_ (ld_blt I hg hm PyProof.Rows.boot_zip (PyProof.Rows.callWith_type1 (thn (ha.run pos pins s σ H _ I h) fun us s1 ⟨vs, H1, I1, r1, q1⟩ => ?_) hs hpl))
  obtain ⟨a, b, xs, ys, rfl, q1⟩ := q1
  obtain ⟨ua, ub, rfl, ra, rb⟩ : ∃ ua ub, us = [ua, ub] ∧ RelV (.ref a) ua ∧ RelV (.ref b) ub := by
    cases r1 with
    | cons r rr => cases rr with
      | cons r' rr => cases rr; exact ⟨_, _, rfl, r, r'⟩
  cases ra
  cases rb
  obtain ⟨n, hn⟩ : ∃ n, n = s1.heap.objs.size := ⟨_, rfl⟩
  have fr : ∀ c, c ∈ [s1.heap.objs.size + 4, s1.heap.objs.size + 2, s1.heap.objs.size + 3, s1.heap.objs.size, s1.heap.objs.size + 1] → FpOk X pins H1 c := fun c hc => by
    have le : s1.heap.objs.size ≤ c := by
      simp only [List.mem_cons, List.not_mem_nil, or_false] at hc; omega
    exact I1.fpOk le (I1.hok.fresh le)
  rcases q1 with ⟨qx, qy, q⟩ | ⟨qx, qy, q⟩ | ⟨qx, qy, q⟩
  · obtain ⟨_, _, p1, _⟩ := I1.list qx
    obtain ⟨_, _, p2, _⟩ := I1.list qy
    refine call_zip_2 p1.isList p2.isList fun h' b1 b2 b3 b4 b5 _ hk => wpAny_pyIter_zip b1 ?_
    exact ⟨_, _, _, _, H1, rfl, I1.kept (t' := s1.toks) hk, turn_zip (PySem.W.ktu_apart s1.heap.objs.size a b p1.lt p2.lt), ⟨b1, b2, ⟨_, _, b3⟩, b4, b5⟩, fr, q⟩
  · obtain ⟨its, _, p1, _⟩ := I1.tuple qx
    obtain ⟨its2, _, p2, _⟩ := I1.tuple qy
    have l1 : a < s1.heap.objs.size := by obtain ⟨_, e, _⟩ := id p1; exact Heap.lt_size e
    have l2 : b < s1.heap.objs.size := by obtain ⟨_, e, _⟩ := id p2; exact Heap.lt_size e
    refine RZ.call_zipT (show s1.heap.IsTuple a its.toArray from p1) (show s1.heap.IsTuple b its2.toArray from p2) fun h' b1 b2 b3 b4 b5 _ hk => wpAny_pyIter_zip b1 ?_
    exact ⟨_, _, _, _, H1, rfl, I1.kept (t' := s1.toks) hk, RZ.turn_zipT (PySem.W.ktu_apart s1.heap.objs.size a b l1 l2), ⟨b1, b2, ⟨_, _, b3⟩, b4, b5⟩, fr, q⟩
  · obtain ⟨its, _, p1, _⟩ := I1.list qx
    obtain ⟨its2, _, p2, _⟩ := I1.tuple qy
    have l2 : b < s1.heap.objs.size := by obtain ⟨_, e, _⟩ := id p2; exact Heap.lt_size e
    refine call_zipLT p1.isList (show s1.heap.IsTuple b its2.toArray from p2) fun h' b1 b2 b3 b4 b5 hk => wpAny_pyIter_zip b1 ?_
    exact ⟨_, _, _, _, H1, rfl, I1.kept (t' := s1.toks) hk, turn_zipLT (PySem.W.ktu_apart s1.heap.objs.size a b p1.lt l2), ⟨b1, b2, ⟨_, _, b3⟩, b4, b5⟩, fr, q⟩
section
variable {K : PySem.W.Frag} {a b : Addr} {n : Nat}
theorem walkLT : Walk (ItzLT K a b) n (fun H => ∃ us vs, SqL K H a us ∧ SqT K H b vs ∧ n = min us.length vs.length) (fun i H v H' => ∃ T x y, v = .ref T ∧ H T = none ∧ H' = upd H T (.tup [x, y]) ∧ (∀ us, SqL K H a us → us[i]? = some x) ∧ ∀ vs, SqT K H b vs → vs[i]? = some y) :=
  ⟨fun i H hi ⟨us, vs, q1, q2, e⟩ => ⟨us, vs, us[i]'(by omega), vs[i]'(by omega), q1, q2, by simp [show i < us.length by omega], by simp [show i < vs.length by omega]⟩, fun H ⟨us, vs, q1, q2, e⟩ => ⟨us, vs, q1, q2, by omega⟩, fun _ _ _ _ _ _ y => y⟩
end
def srcZipN : List PV → VH → Res Src
  | [.lst xs, .tup ys], h => .ok ⟨zipL xs ys, []⟩ h
  | vs, h => srcZip vs h
theorem srcZipN_lt (xs ys : List PV) (h : VH) : srcZipN [.lst xs, .tup ys] h = .ok ⟨zipL xs ys, []⟩ h := rfl
theorem srcZipN_ll (xs ys : List PV) (h : VH) : srcZipN [.lst xs, .lst ys] h = .ok ⟨zipL xs ys, []⟩ h := rfl
section
variable {c : Ck} {X : Cx} {W : WX} {pos p : Pos} {e e2 tg : Expr} {es : List Expr} {m : EM} {ms : AM}
def iZpN (ms : AM) : LS → VH → Res Src := fun σ h => (ms σ h).bind srcZipN
theorem iZpN_def (σ : LS) (h : VH) : iZpN ms σ h = (ms σ h).bind srcZipN := rfl
theorem SI.zipN {elts : List Expr} {kk : Nat} {tpos : Pos} (hg : Gl X "zip") (hm : X.mg "zip" = none) (ha : SA c X W [e, e2] ms) (hs : starEach [e, e2] X.env = (false, eval e X.env) :: starEach [e2] X.env := by rfl) (hpl : (backTo pos (starEach [e2] X.env)).any (·.1) = false := by rfl) :
    SI c X W (.Tuple elts kk tpos) (.Call (.Name "zip" p) [e, e2] [] pos) (iZpN ms) := by
  obtain ⟨la, t, pa, s⟩ := ha
  refine ⟨_, pi_zipN hg hm pa hs hpl, fun g σ h τ H R rs rh q => s g σ h τ H _ rs rh ((Post.bind q).imp (fun us H1 ⟨g1, xs, h1, m1, q1⟩ => ?_) fun _ _ _ z => z)⟩
  unfold srcZipN at q1
  split at q1
  · rename_i xs ys
    obtain ⟨u, v, rfl, rx, ry⟩ := m1.rep.two
    obtain ⟨a, us, rfl, s1, r1⟩ := lstOf_run rx m1.rel (lstOf_lst xs h1)
    obtain ⟨b, vs, rfl, s2, r2⟩ := tup_run ry m1.rel
    refine ⟨a, b, us, vs, rfl, .inr (.inr ⟨s1, .inl (.inl s2), q1.go m1.rel ⟨_, _, walkLT, fun g' h' H' l hn rh' _ => ?_, fun i z g' h' H' H2 l hn rh' _ hz u' hu => ?_⟩⟩)⟩
    · obtain ⟨a', us', e, s', r'⟩ := lstOf_run (rx.mono0 l hn) rh' (lstOf_lst xs h')
      cases e
      obtain ⟨b', vs', e, s2', r2'⟩ := tup_run (ry.mono0 l hn) rh'
      cases e
      exact ⟨us', vs', s', .inl (.inl s2'), by rw [r'.length, r2'.length, zipL_length]⟩
    · obtain ⟨T, x, y, rfl, nT, rfl, hu1, hu2⟩ := hu
      obtain ⟨zx, zy, e1, e2, rfl⟩ := zipL_get hz
      obtain ⟨a', us', e, s', r'⟩ := lstOf_run (rx.mono0 l hn) rh' (lstOf_lst xs h')
      cases e
      obtain ⟨b', vs', e, s2', r2'⟩ := tup_run (ry.mono0 l hn) rh'
      cases e
      obtain ⟨w1, f1, q1⟩ := r'.get e1
      obtain ⟨w2, f2, q2⟩ := r2'.get e2
      have z1 := hu1 us' s'
      have z2 := hu2 vs' (.inl (.inl s2'))
      rw [f1] at z1; cases z1
      rw [f2] at z2; cases z2
      obtain ⟨le, rh2⟩ := RelH.frz (o := .tup [x, y]) rh' nT
      refine ⟨_, le, rh2, ?_⟩
      simp only [Rep]
      exact ⟨T, _, rfl, upd_same, Reps.cons (q1.mono le (Nat.le_refl _)) (Reps.cons (q2.mono le (Nat.le_refl _)) Reps.nil)⟩
  · rename_i _ _ zz
    clear zz
    unfold srcZip at q1
    split at q1
    · rename_i xs ys
      obtain ⟨u, v, rfl, rx, ry⟩ := m1.rep.two
      obtain ⟨a, us, rfl, s1, r1⟩ := tup_run rx m1.rel
      obtain ⟨b, vs, rfl, s2, r2⟩ := tup_run ry m1.rel
      refine ⟨a, b, us, vs, rfl, .inr (.inl ⟨.inl (.inl s1), .inl (.inl s2), q1.go m1.rel ⟨_, _, walkZT, fun g' h' H' l hn rh' _ => ?_, fun i z g' h' H' H2 l hn rh' _ hz u' hu => ?_⟩⟩)⟩
      · obtain ⟨a', us', e, s', r'⟩ := tup_run (rx.mono0 l hn) rh'
        cases e
        obtain ⟨b', vs', e, s2', r2'⟩ := tup_run (ry.mono0 l hn) rh'
        cases e
        exact ⟨us', vs', .inl (.inl s'), .inl (.inl s2'), by rw [r'.length, r2'.length, zipL_length]⟩
      · obtain ⟨T, x, y, rfl, nT, rfl, hu1, hu2⟩ := hu
        obtain ⟨zx, zy, e1, e2, rfl⟩ := zipL_get hz
        obtain ⟨a', us', e, s', r'⟩ := tup_run (rx.mono0 l hn) rh'
        cases e
        obtain ⟨b', vs', e, s2', r2'⟩ := tup_run (ry.mono0 l hn) rh'
        cases e
        obtain ⟨w1, f1, q1⟩ := r'.get e1
        obtain ⟨w2, f2, q2⟩ := r2'.get e2
        have z1 := hu1 us' (.inl (.inl s'))
        have z2 := hu2 vs' (.inl (.inl s2'))
        rw [f1] at z1; cases z1
        rw [f2] at z2; cases z2
        obtain ⟨le, rh2⟩ := RelH.frz (o := .tup [x, y]) rh' nT
        refine ⟨_, le, rh2, ?_⟩
        simp only [Rep]
        exact ⟨T, _, rfl, upd_same, Reps.cons (q1.mono le (Nat.le_refl _)) (Reps.cons (q2.mono le (Nat.le_refl _)) Reps.nil)⟩
    · rename_i x0 y0 _
      obtain ⟨u, v, rfl, rx, ry⟩ := m1.rep.two
      split at q1
      · rename_i xs ys ex ey
        obtain ⟨a, us, rfl, s1, r1⟩ := lstOf_run rx m1.rel ex
        obtain ⟨b, vs, rfl, s2, r2⟩ := lstOf_run ry m1.rel ey
        have now : ∀ {g' h' H'}, g1.le0 h1.length g' → h1.length ≤ h'.length → RelH (kx c X) g' h' H' → ckOk (ckOf x0 h1 ++ ckOf y0 h1) h' → ∃ us' vs', SqL X.K H' a us' ∧ SqL X.K H' b vs' ∧ Reps (kx c X) g' h'.length xs us' ∧ Reps (kx c X) g' h'.length ys vs' := fun {g' h' H'} l hn rh' ck => by
          obtain ⟨c1, c2⟩ := ckOk_app.mp ck
          obtain ⟨e1, rx'⟩ := keptL rx m1.rel ex l hn rh' c1
          obtain ⟨e2, ry'⟩ := keptL ry m1.rel ey l hn rh' c2
          obtain ⟨a', us', e, s', r'⟩ := lstOf_run rx' rh' e1
          cases e
          obtain ⟨b', vs', e, s2', r2'⟩ := lstOf_run ry' rh' e2
          cases e
          exact ⟨us', vs', s', s2', r', r2'⟩
        refine ⟨a, b, us, vs, rfl, .inl ⟨s1, s2, q1.go m1.rel ⟨_, _, walkZ, fun g' h' H' l hn rh' ck => ?_, fun i z g' h' H' H2 l hn rh' ck hz u' hu => ?_⟩⟩⟩
        · obtain ⟨us', vs', s', s2', r', r2'⟩ := now l hn rh' ck
          exact ⟨us', vs', s', s2', by rw [r'.length, r2'.length, zipL_length]⟩
        · obtain ⟨T, x, y, rfl, nT, rfl, hu1, hu2⟩ := hu
          obtain ⟨zx, zy, e1, e2, rfl⟩ := zipL_get hz
          obtain ⟨us', vs', s', s2', r', r2'⟩ := now l hn rh' ck
          obtain ⟨w1, f1, q1⟩ := r'.get e1
          obtain ⟨w2, f2, q2⟩ := r2'.get e2
          have z1 := hu1 us' s'
          have z2 := hu2 vs' s2'
          rw [f1] at z1; cases z1
          rw [f2] at z2; cases z2
          obtain ⟨le, rh2⟩ := RelH.frz (o := .tup [x, y]) rh' nT
          refine ⟨_, le, rh2, ?_⟩
          simp only [Rep]
          exact ⟨T, _, rfl, upd_same, Reps.cons (q1.mono le (Nat.le_refl _)) (Reps.cons (q2.mono le (Nat.le_refl _)) Reps.nil)⟩
      · exact q1.elim
    · exact q1.elim
end
end Pm
namespace Pm
open PySem PySem.Spec L2 PyProof.Rows
/-! ### truth of a row -/
def truB (x : PV) (h : VH) : Res Bool := match seqOf x h with
  | some xs => .ok (!xs.isEmpty) h
  | none => asB x h
def tTru (m : EM) : TM := fun σ h => (m σ h).bind truB
theorem tTru_def (m : EM) (σ : LS) (h : VH) : tTru m σ h = (m σ h).bind truB := rfl
theorem truB_tup (xs : List PV) (h : VH) : truB (.tup xs) h = .ok (!xs.isEmpty) h := rfl
section
variable {c : Ck} {X : Cx} {W : WX} {e : Expr} {m : EM}
theorem Reps.empty {K : Kc} {g : Gh} {n : Nat} {xs : List PV} {us : List V} (r : Reps K g n xs us) : us.isEmpty = xs.isEmpty := by
  have := r.length
  cases xs <;> cases us <;> simp_all
theorem ST.tru (hs : SE c X W e m) (he : ∀ whole, isTrue e X.env whole = (do let v ← whole; standAt e.pos; holding [v] (truthy v)) := by intro _; rfl) : ST c X W e (tTru m) := by
  obtain ⟨t, pe, s⟩ := hs
  refine ⟨_, pt_truth pe he, fun g σ h τ H Q rs rh p => ?_⟩
  refine s g σ h τ H _ rs rh ((Post.bind p).imp (fun u H1 ⟨g1, x, h1, m1, p1⟩ => ?_) fun _ _ _ z => z)
  unfold truB at p1
  split at p1
  · rename_i xs e1
    obtain ⟨a, us, rfl, sq, r⟩ := seqOf_run m1.rep m1.rel e1
    refine ⟨!us.isEmpty, ?_, ?_⟩
    · rcases sq with sq | sq
      · exact .inl ⟨us, sq, rfl⟩
      · exact .inr (.inl ⟨us, sq, rfl⟩)
    · rw [r.empty]
      exact p1 g1 _ H1 (Gh.le.refl _ _) (Nat.le_refl _) m1.rel rfl
  · obtain ⟨b, rfl, q⟩ := asB_run m1.rep m1.rel p1
    exact ⟨b, rfl, q⟩
end
end Pm
namespace Pm
open PySem PySem.Spec L2 PyProof.Rows
/-! ### sorting lists of rows of numbers, any number of them -/
def lexL : List Int → List Int → Bool
  | _, [] => false
  | [], _ :: _ => true
  | x :: xs, y :: ys => if x = y then lexL xs ys else decide (x < y)
theorem lexL_irr : ∀ x, lexL x x = false
  | [] => rfl
  | x :: xs => by rw [lexL, if_pos rfl]; exact lexL_irr xs
theorem lexL_asym : ∀ x y, lexL x y = true → lexL y x = false
  | _, [], h => by simp [lexL] at h
  | [], _ :: _, _ => rfl
  | x :: xs, y :: ys, h => by
    rw [lexL] at h ⊢
    by_cases e : x = y
    · rw [if_pos e] at h; rw [if_pos e.symm]; exact lexL_asym xs ys h
    · rw [if_neg e, decide_eq_true_eq] at h
      rw [if_neg (fun z => e z.symm), decide_eq_false_iff_not]; omega
theorem lexL_tr : ∀ x y z, lexL y x = false → lexL z y = false → lexL z x = false
  | [], _, z, _, _ => by cases z <;> rfl
  | a :: x, [], z, h, _ => by simp [lexL] at h
  | a :: x, b :: y, [], _, h => by simp [lexL] at h
  | a :: x, b :: y, c :: z, h1, h2 => by
    rw [lexL] at h1 h2 ⊢
    by_cases e1 : b = a
    · rw [if_pos e1] at h1
      by_cases e2 : c = b
      · rw [if_pos e2] at h2; rw [if_pos (e2.trans e1)]; exact lexL_tr x y z h1 h2
      · rw [if_neg e2, decide_eq_false_iff_not] at h2
        rw [if_neg (fun w => e2 (w.trans e1.symm)), decide_eq_false_iff_not]; omega
    · rw [if_neg e1, decide_eq_false_iff_not] at h1
      by_cases e2 : c = b
      · rw [if_neg (fun w => e1 (e2.symm.trans w)), decide_eq_false_iff_not]; omega
      · rw [if_neg e2, decide_eq_false_iff_not] at h2
        by_cases e3 : c = a
        · omega
        · rw [if_neg e3, decide_eq_false_iff_not]; omega
theorem lexL_anti : ∀ x y, lexL x y = false → lexL y x = false → x = y
  | [], [], _, _ => rfl
  | [], _ :: _, h, _ => by simp [lexL] at h
  | _ :: _, [], _, h => by simp [lexL] at h
  | x :: xs, y :: ys, h1, h2 => by
    rw [lexL] at h1 h2
    by_cases e : x = y
    · rw [if_pos e] at h1; rw [if_pos e.symm] at h2
      rw [e, lexL_anti xs ys h1 h2]
    · rw [if_neg e, decide_eq_false_iff_not] at h1
      rw [if_neg (fun z => e z.symm), decide_eq_false_iff_not] at h2
      omega
/-- the same rows, rising -/
def sortR (nss : List (List Int)) : List (List Int) := nss.mergeSort fun a b => !lexL b a
theorem sortR_perm (nss : List (List Int)) : (sortR nss).Perm nss := List.mergeSort_perm _ _
theorem sortR_le (nss : List (List Int)) : (sortR nss).Pairwise fun a b => lexL b a = false := by
  have := List.pairwise_mergeSort (le := fun a b : List Int => !lexL b a) (fun a b c h1 h2 => by
    simp only [Bool.not_eq_true'] at *; exact lexL_tr a b c h1 h2) (fun a b => by
    cases h : lexL b a with
    | false => simp
    | true => simp [lexL_asym _ _ h]) nss
  exact this.imp fun h => by simpa using h
theorem sortR_uniq {a b : List (List Int)} (hp : a.Perm b) (ha : a.Pairwise fun x y => lexL y x = false) (hb : b.Pairwise fun x y => lexL y x = false) : a = b :=
  List.Perm.eq_of_pairwise (le := fun x y => lexL y x = false) (fun x y _ _ h1 h2 => lexL_anti x y h2 h1) ha hb hp
section
open SrtO
theorem swo_rows (k : Value → List Int) : Swo fun v u => lexL (k v) (k u) := ⟨fun x y h => lexL_asym _ _ h, fun x y z h1 h2 => lexL_tr _ _ _ h1 h2⟩
variable {prog : Program} {w : World} {A : Around} {s : Shared}
theorem lexR_ints {b : Bool} {xs ys : List Value} {ns ms : List Int} {Q : Bool → Shared → Prop} (i : Nat) (hx : IntsAre xs ns) (hy : IntsAre ys ms) (hl : ns.length = ms.length)
    (h : Q (lexL ns ms) s) : PySem.W.KatLex prog w A b false Q (xs.zip ys) i s := by
  induction hx generalizing ys ms i with
  | nil =>
    cases hy with
    | nil => exact PySem.W.kat_nil h
    | cons q u hy => simp at hl
  | @cons p t xs ns hx ih =>
    cases hy with
    | nil => simp at hl
    | @cons q u ys ms hy =>
      have hl' : ns.length = ms.length := by simpa using hl
      show PySem.W.KatLex prog w A b false Q ((Value.int p t, Value.int q u) :: xs.zip ys) i s
      refine PySem.W.kat_cons (wpAny_eqBool_int ?_)
      by_cases e : p = q
      · subst e
        rw [beq_self_eq_true]
        have d : lexL (p :: ns) (p :: ms) = lexL ns ms := by rw [lexL, if_pos rfl]
        rw [d] at h
        refine PySem.W.kat_yes ?_
        first
          | exact ih (i + 1) hy hl' h
          | exact ih _ _ (i + 1) hy hl' h
      · rw [show (p == q) = false from beq_eq_false_iff_ne.mpr e]
        have d : lexL (p :: ns) (q :: ms) = decide (p < q) := by rw [lexL, if_neg e]
        rw [d] at h
        exact PySem.W.kat_no (TS.oneLt_ints _ h)
def TupsD (h : Heap) (d : Nat) (k : Value → List Int) (vs : List Value) : Prop := ∀ v ∈ vs, TS.TupInts h v (k v) ∧ (k v).length = d
theorem rows_firsts {h : Heap} {d : Nat} {k : Value → List Int} (hd : 1 ≤ d) : ∀ vs : List Value, TupsD h d k vs → ∃ fs, PySem.W.KatTups h vs fs ∧ fs.length = vs.length ∧ ∀ f, f ∈ fs → ∃ n t, f = Value.int n t
  | [], _ => ⟨[], PySem.W.KatTups.nil, rfl, fun f hf => by simp at hf⟩
  | v :: vs, x => by
    obtain ⟨fs, kk, hl, hi⟩ := rows_firsts hd vs fun u hu => x u (List.mem_cons_of_mem _ hu)
    obtain ⟨⟨a, xs, ea, ⟨o, ho, hc, n, hdt⟩, i⟩, hn⟩ := x v List.mem_cons_self
    generalize k v = ns at i hn
    subst ea
    obtain ⟨y, ys, e⟩ : ∃ y ys, xs.toList = y :: ys := by
      cases q : xs.toList with
      | nil =>
        rw [q] at i
        have l := i.length
        rw [List.length_nil, hn] at l
        omega
      | cons y ys => exact ⟨y, ys, rfl⟩
    obtain ⟨m, t, hy⟩ := i.all y (by rw [e]; exact List.mem_cons_self ..)
    refine ⟨y :: fs, PySem.W.KatTups.cons ho hc hdt ?_ kk, by simp [hl], ?_⟩
    · have z := congrArg (fun l : List Value => l[0]?) e
      simpa using z
    · intro f hf
      rcases List.mem_cons.mp hf with rfl | hf
      · exact ⟨m, t, hy⟩
      · exact hi f hf
theorem rows_cmp {vs : List Value} {d : Nat} {k : Value → List Int} (x : TupsD s.heap d k vs) : Cmp prog w A s (tuples' true) (fun p => p.1 ∈ vs) (lt2 fun v u => lexL (k v) (k u)) := by
  intro p q hp hq
  obtain ⟨tp, lp⟩ := x _ hp
  obtain ⟨tq, lq⟩ := x _ hq
  show wpAny (model prog w) A (keyLt' (tuples' true) p.1 q.1) (fun r s' => s' = s ∧ r = lexL (k p.1) (k q.1)) (fun _ _ => False) s
  generalize k p.1 = ns at tp lp ⊢
  generalize k q.1 = ms at tq lq ⊢
  obtain ⟨a, xs, e1, ⟨o, ho, hc, n, hdt⟩, i⟩ := tp
  obtain ⟨a', ys, e2, ⟨o', ho', hc', n', hdt'⟩, i'⟩ := tq
  rw [e1, e2]
  refine PySem.W.kat_lt ho hdt ho' hdt' ?_
  have sz : decide (xs.size < ys.size) = false := by
    have l1 := i.length
    have l2 := i'.length
    rw [Array.length_toList] at l1 l2
    exact decide_eq_false (by omega)
  rw [sz]
  exact lexR_ints 0 i i' (by omega) ⟨rfl, rfl⟩
theorem rows_sortable {a : Addr} {vs : List Value} {d : Nat} {k : Value → List Int} (hd : 1 ≤ d) (h0 : 0 < vs.length) (x : TupsD s.heap d k vs) (ha : ∀ o, s.heap.get? a = some o → o.cls ≠ .type "tuple") : SortableO prog w A s a vs fun v u => lexL (k v) (k u) := by
  intro h' keep
  have x' : TupsD h' d k vs := fun v hm => ⟨(x v hm).1.keeps fun b o e c => keep b o (fun z => by subst z; exact ha o e c) e, (x v hm).2⟩
  obtain ⟨fs, h1, h2, h3⟩ := rows_firsts hd vs x'
  refine ⟨tuples' true, fun Q E hq => ?_, rows_cmp x'⟩
  refine PySem.W.kat_kind (T := .type "int") h1 (by omega) (fun f hm => ?_) (by rfl) ?_
  · obtain ⟨n, t, rfl⟩ := h3 f hm
    exact PySem.W.Looks.of_pure rfl
  · have e : (Value.type "int" != Value.type "tuple") = true := by first | decide +kernel | rfl | decide
    rw [e]
    exact hq
theorem sorted_rows {l : Addr} {vs : List Value} {d : Nat} {k : Value → List Int} {Q : Value → Shared → Prop} {E : Value → Shared → Prop} (hd : 1 ≤ d) (hl : s.heap.IsList l vs.toArray) (hz : vs.length ≤ sizeLine) (x : TupsD s.heap d k vs)
    (h : ∀ out : List Value, Srtd (fun v u => lexL (k v) (k u)) out → Stb (fun v u => lexL (k v) (k u)) out vs → Q (.ref (s.heap.objs.size + 1)) { s with heap := sortedAll s.heap vs out.toArray }) :
    wpAny (model prog w) A (call (.builtin "sorted") [.ref l]) Q E s := by
  refine sorted_ord (swo_rows k) hl hz (fun h2 h₁ a ha kk => ?_) h
  refine rows_sortable (s := { s with heap := h₁ }) hd (by omega) (fun v hm => ⟨(x v hm).1.keeps fun b o e _ => (kk b o e).2, (x v hm).2⟩) fun o e => ?_
  have e' : some o = some (seqObj "list" vs.toArray 0) := e.symm.trans ha
  cases e'
  intro c
  exact absurd (Value.type.inj c) (by decide)
end
end Pm
namespace Pm
open PySem PySem.Spec L2 PyProof.Rows
/-! ### sorted, of numbers or of rows of numbers -/
section
variable {X : Cx}
def rSortR (K : PySem.W.Frag) : List V → Hp → VK → Prop := fun vs H Q => ∃ (a : Addr) (xs : List V) (d : Nat), vs = [V.ref a] ∧ SqL K H a xs ∧ 1 ≤ d ∧ (∀ x ∈ xs, ∃ ns, TupI K H x ns ∧ ns.length = d) ∧
  ∀ (ys : List V) (p : Addr), ys.Perm xs → ys.Pairwise (fun x y => ∀ n m, TupI K H x n → TupI K H y m → lexL m n = false) → H p = none → Q (.ref p) (upd H p (.lst ys))
theorem cr_sortR : CallR X (.builtin "sorted") (rSortR X.K) := by
  intro pins s σ H vs us Q I r h
  obtain ⟨a, xs, d, rfl, hs, hd, hx, q⟩ := h
  obtain ⟨its, rv, hl, hz⟩ := I.list hs
  rw [Vals.ref1 r]
  obtain ⟨e1, e2⟩ := bkV_refs rv fun x m => by
    obtain ⟨ns, ⟨t, e, _⟩, _⟩ := hx x m
    exact ⟨t, e⟩
  have tk : ∀ {v : Value} {ns : List Int}, TS.TupInts s.heap v ns → TS.intsOf s.heap v = ns := fun t => t.ints
  refine sorted_rows (d := d) (k := TS.intsOf s.heap) hd hl.isList (by rw [← rv.length]; exact hz) (fun v hv => ?_) fun out h1 h2 => ?_
  · obtain ⟨t, rfl⟩ := e2 v hv
    have hm : V.ref t ∈ xs := by
      rw [e1]
      exact List.mem_map.mpr ⟨_, hv, rfl⟩
    obtain ⟨ns, ⟨t', e, ht⟩, hn⟩ := hx _ hm
    cases e
    have tr := tupI_raw I ht
    rw [tk tr]
    exact ⟨tr, hn⟩
  · obtain ⟨ep, he'⟩ := PyProof.Rows.sortedAll_at s.heap its out.toArray
    have h3 : ∀ u ∈ out, ∃ a, u = Value.ref a := fun u hu => e2 u (h2.perm.mem_iff.mp hu)
    have hp : (out.map bkV).Perm xs := by
      rw [e1]
      exact h2.perm.map bkV
    have hlen : (out.map bkV).length ≤ sizeLine := by
      rw [hp.length_eq]
      exact hz
    refine ⟨.ref _, upd H (s.heap.objs.size + 1) (.lst (out.map bkV)), I.laid (t' := s.toks) (fun _ _ => PyProof.Rows.sortedAll_old) (Nat.le_succ _) ⟨hlen, out, ep, bkV_vals h3, he'⟩, rfl, q _ _ hp ?_ (I.hok.fresh (Nat.le_succ _))⟩
    rw [List.pairwise_map]
    refine List.Pairwise.imp (fun {u v} huv n m hn hm => ?_) h1
    obtain ⟨t, et, ht⟩ := hn
    obtain ⟨t', et', ht'⟩ := hm
    have eu := bkV_ref et
    have ev := bkV_ref et'
    have i1 : TS.intsOf s.heap u = n := by rw [eu]; exact tk (tupI_raw I ht)
    have i2 : TS.intsOf s.heap v = m := by rw [ev]; exact tk (tupI_raw I ht')
    rw [← i1, ← i2]
    exact huv
def rSortAny (K : PySem.W.Frag) : List V → Hp → VK → Prop := fun vs H Q => rSortedI K vs H Q ∨ rSortR K vs H Q
theorem cr_sortAny : CallR X (.builtin "sorted") (rSortAny X.K) := fun pins s σ H vs us Q I r h => h.elim (cr_sortedI pins s σ H vs us Q I r) (cr_sortR pins s σ H vs us Q I r)
end
def rowV (ns : List Int) : PV := .tup (ns.map PV.int)
def rowsOf : List PV → Option (List (List Int))
  | [] => some []
  | .tup ys :: r => match intsOf ys, rowsOf r with
    | some n, some k => some (n :: k)
    | _, _ => none
  | _ :: _ => none
@[simp] theorem rowsOf_map : ∀ nss : List (List Int), rowsOf (nss.map rowV) = some nss
  | [] => rfl
  | n :: r => by
    show (match intsOf (n.map PV.int), rowsOf (r.map rowV) with
      | some a, some k => some (a :: k)
      | _, _ => none) = _
    rw [intsOf_map, rowsOf_map r]
theorem rowsOf_eq : ∀ {xs : List PV} {nss : List (List Int)}, rowsOf xs = some nss → xs = nss.map rowV
  | [], _, e => by cases e; rfl
  | x :: r, nss, e => by
    cases x <;> simp only [rowsOf, reduceCtorEq] at e
    rename_i ys
    cases e1 : intsOf ys with
    | none => rw [e1] at e; simp at e
    | some n =>
      cases e2 : rowsOf r with
      | none => rw [e1, e2] at e; simp at e
      | some k =>
        rw [e1, e2] at e
        cases e
        rw [List.map_cons, ← rowsOf_eq e2, intsOf_eq e1]; rfl
/-- rows of one length, at least one -/
def evenR (nss : List (List Int)) : Bool := match nss with
  | [] => false
  | n :: r => decide (1 ≤ n.length) && r.all fun m => decide (m.length = n.length)
theorem evenR_d {nss : List (List Int)} (h : evenR nss = true) : ∃ d, 1 ≤ d ∧ ∀ n ∈ nss, n.length = d := by
  cases nss with
  | nil => cases h
  | cons n r =>
    simp only [evenR, Bool.and_eq_true, decide_eq_true_eq, List.all_eq_true] at h
    exact ⟨n.length, h.1, fun m hm => (List.mem_cons.mp hm).elim (fun e => by rw [e]) (h.2 m)⟩
def sortedR (cell : Bool) (x : PV) (h : VH) : Res PV := match intsIn x h with
  | some ns => mkL cell ((sortI ns).map PV.int) h
  | none => match (lstOf x h).bind rowsOf with
    | some nss => if evenR nss = true then mkL cell ((sortR nss).map rowV) h else .bad
    | none => .bad
section
variable {K : Kc} {g : Gh} {n : Nat}
theorem reps_inv {x : PV} {xs : List PV} {us : List V} (r : Reps K g n (x :: xs) us) : ∃ u vs, us = u :: vs ∧ Rep K g n x u ∧ Reps K g n xs vs := by
  simp only [Reps] at r
  obtain ⟨u, vs, e, a, b⟩ := r
  exact ⟨u, vs, e, a, b⟩
theorem reps_perm {ys us : List V} (p : ys.Perm us) : ∀ nss : List (List Int), Reps K g n (nss.map rowV) us → ∃ mss : List (List Int), mss.Perm nss ∧ Reps K g n (mss.map rowV) ys := by
  induction p with
  | nil => exact fun nss r => ⟨nss, List.Perm.refl _, r⟩
  | @cons x l1 l2 p ih =>
    intro nss r
    cases nss with
    | nil => have := r.length; simp at this
    | cons a rest =>
      obtain ⟨u, vs, e, ra, rb⟩ := reps_inv r
      cases e
      obtain ⟨m, pm, rm⟩ := ih rest rb
      exact ⟨a :: m, pm.cons a, Reps.cons ra rm⟩
  | swap x y l =>
    intro nss r
    match nss, r with
    | [], r => have := r.length; simp at this
    | [a], r => have := r.length; simp at this
    | a :: b :: rest, r =>
      obtain ⟨u, vs, e, ra, rb⟩ := reps_inv r
      cases e
      obtain ⟨u, vs, e, rc, rd⟩ := reps_inv rb
      cases e
      exact ⟨b :: a :: rest, List.Perm.swap a b rest, Reps.cons rc (Reps.cons ra rd)⟩
  | trans p q ih1 ih2 =>
    intro nss r
    obtain ⟨m2, p2, r2⟩ := ih2 nss r
    obtain ⟨m1, p1, r1⟩ := ih1 m2 r2
    exact ⟨m1, p1.trans p2, r1⟩
end
theorem row_tupI {K : Kc} {g : Gh} {h : VH} {H : Hp} {ns : List Int} {u : V} (rx : Rep K g h.length (rowV ns) u) (rh : RelH K g h H) : TupI K.K H u ns := by
  obtain ⟨a, us, rfl, s, r⟩ := tup_run rx rh
  rw [Reps.ints_eq r] at s
  exact ⟨a, rfl, .inl (.inl s)⟩
theorem rows_pair {K : Kc} {g : Gh} {h : VH} {H : Hp} (rh : RelH K g h H) : ∀ {mss : List (List Int)} {ys : List V}, Reps K g h.length (mss.map rowV) ys → ys.Pairwise (fun x y => ∀ n m, TupI K.K H x n → TupI K.K H y m → lexL m n = false) → mss.Pairwise fun a b => lexL b a = false
  | [], _, _, _ => List.Pairwise.nil
  | a :: r, ys, rr, p => by
    obtain ⟨u, vs, rfl, ra, rb⟩ := reps_inv rr
    obtain ⟨p1, p2⟩ := List.pairwise_cons.mp p
    refine List.pairwise_cons.mpr ⟨fun b hb => ?_, rows_pair rh rb p2⟩
    obtain ⟨i, hi, rfl⟩ := List.getElem_of_mem hb
    obtain ⟨v, ev, rv⟩ := rb.get (i := i) (x := rowV r[i]) (by simp [hi])
    exact p1 v (List.mem_of_getElem? ev) _ _ (row_tupI ra rh) (row_tupI rv rh)
section
variable {c : Ck} {X : Cx}
theorem sortedRS (cell : Bool) : CallS c X (rSortAny X.K) (one (sortedR cell)) := fun g h H xs us Q E r rh p => by
  obtain ⟨x, u, rfl, rfl, rx, p⟩ := one_run r p
  unfold sortedR at p
  split at p
  · rename_i ns e
    obtain ⟨a, rfl, s⟩ := intsIn_run rx rh e
    refine .inl ⟨a, ns, rfl, s, fun ns' q hp hs nq => ?_⟩
    have : ns' = sortI ns := sorted_uniq (hp.trans (sortI_perm ns).symm) hs (sortI_le ns)
    rw [this]
    exact mkL_new rh (Reps.ints _) p q nq
  · split at p
    · rename_i nss e
      split at p
      · rename_i ev
        obtain ⟨xs, e1, e2⟩ := Option.bind_eq_some_iff.mp e
        obtain ⟨a, us, rfl, s, r⟩ := lstOf_run rx rh e1
        rw [rowsOf_eq e2] at r
        obtain ⟨d, hd, hl⟩ := evenR_d ev
        refine .inr ⟨a, us, d, rfl, s, hd, fun v hv => ?_, fun ys q hp hs nq => ?_⟩
        · obtain ⟨i, hi, rfl⟩ := List.getElem_of_mem hv
          obtain ⟨y, ey, ry⟩ := r.get' (List.getElem?_eq_getElem hi)
          rw [List.getElem?_map] at ey
          cases en : nss[i]? with
          | none => rw [en] at ey; cases ey
          | some ns =>
            rw [en] at ey
            cases ey
            exact ⟨ns, row_tupI ry rh, hl ns (List.mem_of_getElem? en)⟩
        · obtain ⟨mss, pm, rm⟩ := reps_perm hp nss r
          have : mss = sortR nss := sortR_uniq (pm.trans (sortR_perm nss).symm) (rows_pair rh rm hs) (sortR_le nss)
          rw [this] at rm
          exact mkL_new rh rm p q nq
      · exact p.elim
    · exact p.elim
end
theorem sortedR_ints {cell : Bool} {x : PV} {h : VH} {ns : List Int} (e : intsIn x h = some ns) : sortedR cell x h = mkL cell ((sortI ns).map PV.int) h := by simp [sortedR, e]
end Pm
namespace Pm
open PySem PySem.Spec L2 PyProof.Rows
/-! ### sorted of a tuple -/
section
open SrtO
variable {prog : Program} {w : World} {A : Around} {E : Value → Shared → Prop} {s : Shared}
theorem collect_tup {l : Addr} {vs : List Value} {Q : List Value → Shared → Prop} (hl : s.heap.IsTuple l vs.toArray)
    (h : Q vs { s with heap := (s.heap.push (seqObj "list" #[] 0)).update s.heap.objs.size (Obj.mapSeq (· ++ vs.toArray)) }) (hsz : vs.length ≤ sizeLine) :
    wpAny (model prog w) A (collect (.ref l)) Q E s := by
  obtain ⟨o, ho, hc, n, hd⟩ := id hl
  unfold collect
  refine wpAny_bind (wpAny_runValue (codeAny_builtin entry_proto_collect' ?_))
  show wpAny _ _ (do again (.builtin "list.__iadd__" ⟨[← newList [], .ref l], []⟩)) _ _ s
  refine wpAny_bind (wpAny_newList (wpAny_pure ⟨Code.quiet_builtin _ (by decide +kernel), codeAny_builtin entry_list_iadd' ?_⟩))
  show wpAny _ _ (Builtin.List.listExtendWith (.ref s.heap.objs.size) (.ref l) (.ref s.heap.objs.size)) _ _ { s with heap := s.heap.push (seqObj "list" #[] 0) }
  unfold Builtin.List.listExtendWith
  have ho' : (s.heap.push (seqObj "list" #[] 0)).get? l = some o := Heap.get?_push_of_some _ ho
  refine wpAny_bind (wpAny_typeOf (T := "tuple") ⟨o, ho', hc⟩ ?_)
  have ht : (Value.type "tuple" == Value.type "tuple") = true := by rfl
  rw [if_pos (by rw [ht]; simp)]
  refine wpAny_bind (listItems_at ho' hd ?_)
  refine wpAny_bind (listItems_at (xs := #[]) (n := 0) (Heap.get?_push_size _ rfl) rfl ?_)
  rw [if_neg (by simp)]
  refine wpAny_bind (listUpdate_at (xs := #[]) (n := 0) (Heap.get?_push_size _ rfl) rfl ?_ (Nat.zero_le _) (by show (#[] ++ vs.toArray).size ≤ sizeLine + 1; simp only [Array.size_append, List.size_toArray, List.length_nil]; omega))
  refine wpAny_pure ?_
  show wpAny (model prog w) A (do
      let o ← load s.heap.objs.size
      match o.data with
      | .seq xs _ => pure xs.toList
      | _ => unsupported "internal:collect") Q E { s with heap := (s.heap.push (seqObj "list" #[] 0)).update s.heap.objs.size (Obj.mapSeq (· ++ vs.toArray)) }
  refine wpAny_bind (wpAny_load (get?_update_seq (Heap.get?_push_size _ rfl) _) ?_)
  show wpAny _ _ (pure ((#[] : Array Value) ++ vs.toArray).toList) Q E _
  rw [show ((#[] : Array Value) ++ vs.toArray).toList = vs by simp]
  exact wpAny_pure h
theorem sorted_ordT {l : Addr} {vs : List Value} {ltv : Value → Value → Bool} {Q : Value → Shared → Prop} (O : Swo ltv) (hl : s.heap.IsTuple l vs.toArray) (hz : vs.length ≤ sizeLine)
    (hS : 2 ≤ vs.length → ∀ (h₁ : Heap) (a : Addr), h₁.get? a = some (seqObj "list" vs.toArray 0) → (∀ b o, s.heap.get? b = some o → b ≠ a ∧ h₁.get? b = some o) → SortableO prog w A.in1.in1 { s with heap := h₁ } a vs ltv)
    (h : ∀ out : List Value, Srtd ltv out → Stb ltv out vs → Q (.ref (s.heap.objs.size + 1)) { s with heap := sortedAll s.heap vs out.toArray }) :
    wpAny (model prog w) A (call (.builtin "sorted") [.ref l]) Q E s := by
  refine Calls.call_function_entry kind_sorted plain_sorted entry_sorted (args_sorted1 _) ?_
  unfold Builtin.«sorted»
  refine wpAny_bind (m := checkCount "sorted" 1 1 _) (wpAny_pure ?_)
  refine wpAny_bind (collect_tup hl ?_ hz)
  refine wpAny_bind (wpAny_newList ?_ hz)
  have hsz : ((s.heap.push (seqObj "list" #[] 0)).update s.heap.objs.size (Obj.mapSeq (· ++ vs.toArray))).objs.size = s.heap.objs.size + 1 := by
    rw [Heap.size_update, size_push']
  have hoL : (((s.heap.push (seqObj "list" #[] 0)).update s.heap.objs.size (Obj.mapSeq (· ++ vs.toArray))).push (seqObj "list" vs.toArray 0)).get? (s.heap.objs.size + 1) = some (seqObj "list" vs.toArray 0) := by
    rw [← hsz]; exact Heap.get?_push_size _ rfl
  have keep : ∀ b o, s.heap.get? b = some o → b ≠ s.heap.objs.size + 1 ∧ (((s.heap.push (seqObj "list" #[] 0)).update s.heap.objs.size (Obj.mapSeq (· ++ vs.toArray))).push (seqObj "list" vs.toArray 0)).get? b = some o := fun b o q => by
    have hlt : b < s.heap.objs.size := Heap.lt_size q
    refine ⟨Nat.ne_of_lt (Nat.lt_succ_of_lt hlt), Heap.get?_push_of_some _ ?_⟩
    rw [Heap.get?_update_ne _ _ _ _ (Nat.ne_of_lt hlt)]
    exact Heap.get?_push_of_some _ q
  show wpAny _ _ _ _ _ { s with heap := ((s.heap.push (seqObj "list" #[] 0)).update s.heap.objs.size (Obj.mapSeq (· ++ vs.toArray))).push (seqObj "list" vs.toArray 0) }
  rw [hsz]
  refine wpAny_bind (wpAny_holding (wpAny_call_entry slot_list_sort ⟨_, hoL, rfl⟩ entry_list_sort (list_sort_ord O hoL hz (fun h2 => hS h2 _ _ hoL keep) fun out hs hb => ⟨_, rfl, ?_⟩) (args_list_sort _)))
  exact wpAny_pure ⟨_, rfl, h out hs hb⟩
end
section
variable {X : Cx}
def rSortedIT (K : PySem.W.Frag) : List V → Hp → VK → Prop := fun vs H Q => ∃ (a : Addr) (ns : List Int), vs = [V.ref a] ∧ SqT K H a (ns.map V.int) ∧ ∀ (ns' : List Int) (p : Addr), ns'.Perm ns → ns'.Pairwise (· ≤ ·) → H p = none → Q (.ref p) (upd H p (.lst (ns'.map V.int)))
theorem cr_sortedIT : CallR X (.builtin "sorted") (rSortedIT X.K) := by
  intro pins s σ H vs us Q I r h
  obtain ⟨a, ns, rfl, hs, q⟩ := h
  obtain ⟨its, rv, hl, hz⟩ := I.tuple hs
  rw [Vals.ref1 r]
  have hi := rv.ints
  have hz' : its.length ≤ sizeLine := by rw [← rv.length]; exact hz
  refine sorted_ordT SrtO.swo_int (show s.heap.IsTuple a its.toArray from hl) hz' (fun h2 h₁ a' _ _ => SrtO.ints_sortable hi h2) fun out h1 h2 => ?_
  obtain ⟨k1, k2, k3⟩ := SrtO.ints_out hi h1 h2
  obtain ⟨ep, he'⟩ := PyProof.Rows.sortedAll_at s.heap its out.toArray
  have hlen : ((out.map SrtO.iv).map V.int).length ≤ sizeLine := by
    rw [List.length_map, k2.length_eq]
    rw [List.length_map] at hz
    exact hz
  exact ⟨.ref _, upd H (s.heap.objs.size + 1) (.lst ((out.map SrtO.iv).map V.int)), I.laid (t' := s.toks) (fun _ _ => PyProof.Rows.sortedAll_old) (Nat.le_succ _) ⟨hlen, out, ep, vals_of_ints k1, he'⟩, rfl, q _ _ k2 k3 (I.hok.fresh (Nat.le_succ _))⟩
end
end Pm
namespace Pm
open PySem PySem.Spec L2 PyProof.Rows
/-! ### sorted: a list or a tuple of numbers, a list of rows -/
section
variable {c : Ck} {X : Cx}
def rSortX (K : PySem.W.Frag) : List V → Hp → VK → Prop := fun vs H Q => rSortAny K vs H Q ∨ rSortedIT K vs H Q
theorem cr_sortX : CallR X (.builtin "sorted") (rSortX X.K) := fun pins s σ H vs us Q I r h => h.elim (cr_sortAny pins s σ H vs us Q I r) (cr_sortedIT pins s σ H vs us Q I r)
def sortedX (cell : Bool) (x : PV) (h : VH) : Res PV := match x with
  | .tup xs => match intsOf xs with
    | some ns => mkL cell ((sortI ns).map PV.int) h
    | none => .bad
  | x => sortedR cell x h
theorem sortedXS (cell : Bool) : CallS c X (rSortX X.K) (one (sortedX cell)) := fun g h H xs us Q E r rh p => by
  obtain ⟨x, u, rfl, rfl, rx, p'⟩ := one_run r p
  unfold sortedX at p'
  split at p'
  · rename_i xs
    split at p'
    · rename_i ns e
      obtain ⟨a, us, rfl, s, r'⟩ := tup_run rx rh
      rw [intsOf_eq e] at r'
      rw [Reps.ints_eq r'] at s
      refine .inr ⟨a, ns, rfl, .inl (.inl s), fun ns' q hp hs nq => ?_⟩
      have : ns' = sortI ns := sorted_uniq (hp.trans (sortI_perm ns).symm) hs (sortI_le ns)
      rw [this]
      exact mkL_new rh (Reps.ints _) p' q nq
    · exact p'.elim
  · exact .inl (sortedRS cell g h H [x] [u] Q E r rh p')
end
theorem sortedX_tup (cell : Bool) (ns : List Int) (h : VH) : sortedX cell (.tup (ns.map PV.int)) h = mkL cell ((sortI ns).map PV.int) h := by simp [sortedX]
theorem sortedX_rows {cell : Bool} {x : PV} {h : VH} {nss : List (List Int)} (e : lstOf x h = some (nss.map rowV)) (hx : ∀ xs, x ≠ .tup xs) (ev : evenR nss = true) : sortedX cell x h = mkL cell ((sortR nss).map rowV) h := by
  have i : intsIn x h = none := by
    unfold intsIn
    rw [e]
    cases nss with
    | nil => cases ev
    | cons n r => rfl
  have y : sortedX cell x h = sortedR cell x h := by
    cases x <;> first | rfl | exact absurd rfl (hx _)
  rw [y]
  unfold sortedR
  rw [i, e]
  simp [ev]
theorem sortedX_nil {cell : Bool} {x : PV} {h : VH} (e : lstOf x h = some []) (hx : ∀ xs, x ≠ .tup xs) : sortedX cell x h = mkL cell [] h := by
  have y : sortedX cell x h = sortedR cell x h := by
    cases x <;> first | rfl | exact absurd rfl (hx _)
  rw [y, sortedR_ints (ns := []) (by unfold intsIn; rw [e]; rfl)]
  simp [sortI]
end Pm
namespace Pm
open PySem PySem.Spec L2 PyProof.Rows
/-! ### a list unpacked -/
def gLstM (n : Nat) (ms : GMs) : GM := fun v σ h => match v with
  | .lst xs => if xs.length = n then ms xs σ h else .bad
  | _ => .bad
theorem gLstM_lst (n : Nat) (ms : GMs) (xs : List PV) (σ : LS) (h : VH) : gLstM n ms (.lst xs) σ h = if xs.length = n then ms xs σ h else .bad := rfl
section
variable {c : Ck} {X : Cx} {pos : Pos}
theorem SG.lst {es : List Expr} {k : Nat} {ms : GMs} {n : Nat} (hc : X.calm = true) (hs : SGs c X es ms) (hn : (assignEach es X.env).length = n := by rfl) (hst : (assignEach es X.env).findIdx? (·.1) = none := by rfl) : SG c X (.Tuple es k pos) (gLstM n ms) := by
  obtain ⟨t, p, s⟩ := hs
  refine ⟨_, pg_lst hc p hn hst, fun g σ h τ H v u N rs rh rv q => ?_⟩
  cases v with
  | lst xs =>
    obtain ⟨a, us, rfl, sq, rr⟩ := lstOf_run rv rh (lstOf_lst xs h)
    rw [gLstM_lst] at q
    split at q
    · rename_i e
      exact ⟨a, us, rfl, sq, rr.length.trans e, s g σ h τ H xs us N rs rh rr q⟩
    · exact q.elim
  | _ => exact q.elim
end
end Pm
namespace Pm
open PySem PySem.Spec L2 PyProof.Rows
/-! ### sorted(set(t)), len(set(t)), t a tuple of numbers -/
section
variable {X : Cx}
def rSetTI (K : PySem.W.Frag) (w : World) : List V → Hp → VK → Prop := fun xs H Q => ∃ (p : Addr) (ns : List Int), xs = [.ref p] ∧ SqT K H p (ns.map V.int) ∧ ns.length ≤ 1000 ∧
  ∀ (a : Addr) (out : List Int), H a = none → out.Nodup → (∀ k, k ∈ out ↔ k ∈ ns) → Q (.ref a) (upd H a (SetO w a (fun j => decide (j ∈ ns)) out.length))
theorem cr_setTI (hc : X.calm = true) : CallR X (.type "set") (rSetTI X.K X.w) := by
  intro pins s σ H xs us Q I r h
  obtain ⟨p0, ns, rfl, hq, hl, q⟩ := h
  rw [Vals.ref1 r]
  obtain ⟨its, rv, pt, hz⟩ := I.tuple hq
  have hi : IntsAre its.toArray.toList ns := by simpa using rv.ints
  refine call_set_tupI ns (I.ok.hd hc) (show s.heap.IsTuple p0 its.toArray from pt) hi (by unfold scanBound; omega) fun h' tk c R1 hcn k => ?_
  obtain ⟨o, es, ep, t, ho, hex, hdt, g, nd, hm2, hb, hf, hn, hr, hl2⟩ := id R1
  have e1 : c = (es.toList.map keyOf).length := by rw [List.length_map, Array.length_toList, hn]
  rw [e1] at R1
  exact ⟨.ref _, upd H s.heap.objs.size (SetO X.w s.heap.objs.size (fun j => decide (j ∈ ns)) (es.toList.map keyOf).length), I.laid (t' := tk) k (Nat.le_refl _) (setO_new R1), rfl, q _ _ (I.hok.fresh (Nat.le_refl _)) nd fun k => by rw [← hm2 k, decide_eq_true_eq]⟩
def rLenSetO (w : World) : List V → Hp → VK → Prop := fun xs H Q => ∃ (a : Addr) (S : Int → Bool) (n : Nat), xs = [.ref a] ∧ H a = some (SetO w a S n) ∧ Q (.int n) H
theorem cr_lenSetO : CallR X (.builtin "len") (rLenSetO X.w) := by
  intro pins s σ H xs us Q I r h
  obtain ⟨a, S, n, rfl, ha, q⟩ := h
  rw [Vals.ref1 r]
  obtain ⟨o, es, ep, t, ho, hex, hd, g, nd, hm2, hb, hf, hn, hr, hl2⟩ := setO_get I ha
  exact call_len_set ho hex hd hf (by unfold scanBound at hb; omega) ⟨.int n, H, I.tok _, ⟨_, by rw [hn]⟩, q⟩
end
/-- each once -/
def ddp : List Int → List Int
  | [] => []
  | x :: xs => if x ∈ xs then ddp xs else x :: ddp xs
theorem mem_ddp : ∀ {L : List Int} {k : Int}, k ∈ ddp L ↔ k ∈ L
  | [], k => by simp [ddp]
  | x :: xs, k => by
    unfold ddp
    by_cases q : x ∈ xs
    · rw [if_pos q, mem_ddp, List.mem_cons]
      exact ⟨.inr, fun h => h.elim (fun e => e ▸ q) id⟩
    · rw [if_neg q, List.mem_cons, List.mem_cons, mem_ddp]
theorem ddp_nodup : ∀ L : List Int, (ddp L).Nodup
  | [] => List.nodup_nil
  | x :: xs => by
    unfold ddp
    by_cases q : x ∈ xs
    · rw [if_pos q]; exact ddp_nodup xs
    · rw [if_neg q]; exact List.nodup_cons.mpr ⟨fun h => q (mem_ddp.mp h), ddp_nodup xs⟩
theorem ddp_len (L : List Int) : (ddp L).length ≤ L.length := by
  induction L with
  | nil => exact Nat.le_refl _
  | cons x xs ih =>
    unfold ddp
    by_cases q : x ∈ xs
    · rw [if_pos q, List.length_cons]; omega
    · rw [if_neg q, List.length_cons, List.length_cons]; omega
theorem same_len {A B : List Int} (a : A.Nodup) (b : B.Nodup) (h : ∀ k, k ∈ A ↔ k ∈ B) : A.length = B.length :=
  ((List.perm_ext_iff_of_nodup a b).mpr h).length_eq
def setIn : PV → Option (List Int)
  | .tup xs => match intsOf xs with
    | some ns => if ns.length ≤ 1000 then some ns else none
    | none => none
  | _ => none
theorem setIn_tup {ns : List Int} (h : ns.length ≤ 1000) : setIn (.tup (ns.map PV.int)) = some ns := by simp [setIn, h]
def sortSetP (x : PV) (h : VH) : Res PV := match setIn x with
  | some ns => if (ddp ns).length < 64 then .ok (.lst ((sortI (ddp ns)).map PV.int)) h else .bad
  | none => .bad
def lenSetP (x : PV) (h : VH) : Res PV := match setIn x with
  | some ns => .ok (.int ((ddp ns).length : Int)) h
  | none => .bad
theorem sortSetP_ok {ns : List Int} {h : VH} (l : ns.length ≤ 1000) (d : (ddp ns).length < 64) : sortSetP (.tup (ns.map PV.int)) h = .ok (.lst ((sortI (ddp ns)).map PV.int)) h := by simp [sortSetP, setIn_tup l, d]
theorem lenSetP_ok {ns : List Int} {h : VH} (l : ns.length ≤ 1000) : lenSetP (.tup (ns.map PV.int)) h = .ok (.int ((ddp ns).length : Int)) h := by simp [lenSetP, setIn_tup l]
section
variable {c : Ck} {X : Cx} {W : WX} {a : Expr} {m : EM} {p p2 q pos : Pos}
theorem setIn_run {g : Gh} {h : VH} {H : Hp} {x : PV} {u : V} {ns : List Int} (rx : Rep (kx c X) g h.length x u) (rh : RelH (kx c X) g h H) (e : setIn x = some ns) : ∃ l, u = .ref l ∧ SqT X.K H l (ns.map V.int) ∧ ns.length ≤ 1000 := by
  cases x <;> simp only [setIn, reduceCtorEq] at e
  split at e
  · rename_i ns' e2
    split at e
    · rename_i hl
      cases e
      obtain ⟨l, us, rfl, s, r⟩ := tup_run rx rh
      rw [intsOf_eq e2] at r
      rw [Reps.ints_eq r] at s
      exact ⟨l, rfl, .inl (.inl s), hl⟩
    · cases e
  · cases e
theorem RelH.more {g : Gh} {h : VH} {H : Hp} {b : Addr} {o : HO} (r : RelH (kx c X) g h H) (n : H b = none) : RelH (kx c X) g h (upd H b o) where
  same := fun d w e => (upd_ne (ne_of_none (r.same _ _ e) n)).trans (r.same _ _ e)
  cell := fun i q e d => by
    obtain ⟨u, e1, ru⟩ := r.cell i q e d
    exact ⟨u, (upd_ne (ne_of_none e1 n)).trans e1, ru⟩
  sep := r.sep
  inj := r.inj
  fr := fun d w e => by
    obtain ⟨e1, e2, e3⟩ := r.fr d w e
    exact ⟨(upd_ne (ne_of_none e1 n)).trans e1, e2, e3⟩
  ex := r.ex
theorem SE.lenSet (hc : X.calm = true) (hg : Gl X "len") (hm : X.mg "len" = none) (hg2 : Gl X "set") (hm2 : X.mg "set" = none) (ha : SE c X W a m) (na : starEach [a] X.env = (false, eval a X.env) :: starEach [] X.env := by rfl)
    (nb : starEach [.Call (.Name "set" p2) [a] [] q] X.env = (false, eval (.Call (.Name "set" p2) [a] [] q) X.env) :: starEach [] X.env := by rfl) (ne : (backTo q (starEach ([] : List Expr) X.env)).any (·.1) = false := by rfl) (ne2 : (backTo pos (starEach ([] : List Expr) X.env)).any (·.1) = false := by rfl) :
    SE c X W (.Call (.Name "len" p) [.Call (.Name "set" p2) [a] [] q] [] pos) (eUn lenSetP m) := by
  obtain ⟨t, pe, s⟩ := ha
  refine ⟨_, pe_callB cr_lenSetO hg hm PySem.boot_len (pa_cons (pe_callTy (cr_setTI hc) hg2 hm2 PyProof.Rows.boot_set (pa_cons pe pa_nil na) (by decide) (by decide) na ne) pa_nil nb) (by decide) (by decide) nb ne2, fun g σ h τ H Q rs rh pp => ?_⟩
  refine s g σ h τ H _ rs rh ((Post.bind pp).imp (fun u H1 ⟨g1, x, h1, m1, p1⟩ => ?_) fun _ _ _ z => z)
  unfold lenSetP at p1
  split at p1
  · rename_i ns e
    obtain ⟨l, rfl, s1, hl⟩ := setIn_run m1.rep m1.rel e
    refine ⟨l, ns, rfl, s1, hl, fun b out hb nd hm => ⟨b, _, out.length, rfl, upd_same, ?_⟩⟩
    have e1 : out.length = (ddp ns).length := same_len nd (ddp_nodup ns) fun k => (hm k).trans mem_ddp.symm
    exact p1 g1 _ _ (Gh.le.refl _ _) (Nat.le_refl _) (m1.rel.more hb) (by simp only [Rep]; rw [e1])
  · exact p1.elim
theorem SE.sortSet (hc : X.calm = true) (hg : Gl X "sorted") (hm : X.mg "sorted" = none) (hv : bootBuiltins "sorted" = some (.builtin "sorted")) (hg2 : Gl X "set") (hm2 : X.mg "set" = none) (ha : SE c X W a m) (na : starEach [a] X.env = (false, eval a X.env) :: starEach [] X.env := by rfl)
    (nb : starEach [.Call (.Name "set" p2) [a] [] q] X.env = (false, eval (.Call (.Name "set" p2) [a] [] q) X.env) :: starEach [] X.env := by rfl) (ne : (backTo q (starEach ([] : List Expr) X.env)).any (·.1) = false := by rfl) (ne2 : (backTo pos (starEach ([] : List Expr) X.env)).any (·.1) = false := by rfl) :
    SE c X W (.Call (.Name "sorted" p) [.Call (.Name "set" p2) [a] [] q] [] pos) (eUn sortSetP m) := by
  obtain ⟨t, pe, s⟩ := ha
  refine ⟨_, pe_callB (cr_sortedSet hc) hg hm hv (pa_cons (pe_callTy (cr_setTI hc) hg2 hm2 PyProof.Rows.boot_set (pa_cons pe pa_nil na) (by decide) (by decide) na ne) pa_nil nb) (by decide) (by decide) nb ne2, fun g σ h τ H Q rs rh pp => ?_⟩
  refine s g σ h τ H _ rs rh ((Post.bind pp).imp (fun u H1 ⟨g1, x, h1, m1, p1⟩ => ?_) fun _ _ _ z => z)
  unfold sortSetP at p1
  split at p1
  · rename_i ns e
    split at p1
    · rename_i h64
      obtain ⟨l, rfl, s1, hl⟩ := setIn_run m1.rep m1.rel e
      refine ⟨l, ns, rfl, s1, hl, fun b out hb nd hm => ?_⟩
      have e1 : out.length = (ddp ns).length := same_len nd (ddp_nodup ns) fun k => (hm k).trans mem_ddp.symm
      refine ⟨b, _, out.length, rfl, upd_same, by omega, fun ms p hs hk hn hp => ?_⟩
      have nm : ms.Nodup := hs.imp fun {a b} h => by omega
      have pm : ms.Perm (ddp ns) := (List.perm_ext_iff_of_nodup nm (ddp_nodup ns)).mpr fun k => by rw [hk k, decide_eq_true_eq, mem_ddp]
      have e2 : ms = sortI (ddp ns) := sorted_uniq (pm.trans (sortI_perm _).symm) (hs.imp fun {a b} h => by omega) (sortI_le _)
      have hp' : upd H1 b (SetO X.w b (fun j => decide (j ∈ ns)) out.length) p = none := hp
      obtain ⟨le, rh2⟩ := RelH.frz (o := .lst (ms.map V.int)) (m1.rel.more (o := SetO X.w b (fun j => decide (j ∈ ns)) out.length) hb) hp'
      refine p1 _ _ _ le (Nat.le_refl _) rh2 ?_
      simp only [Rep]
      exact ⟨p, _, rfl, upd_same, by rw [e2]; exact Reps.ints _⟩
    · exact p1.elim
  · exact p1.elim
end
end Pm
namespace Pm
open PySem PySem.Spec L2 PyProof.Rows
/-! ### a walk over the keys of a dict that is read -/
section
variable {K : Kc} {g : Gh} {h : VH} {H : Hp}
theorem le0_pr (g : Gh) (n : Nat) (pr : Addr → Option HO) : g.le0 n { g with pr := pr } := ⟨fun _ _ z => z, fun _ _ => rfl⟩
/-- the same heap, the cell locked -/
theorem RelH.lock {i : Nat} {p : PO} {od : Obj} {u : HO} (r : RelH K g h H) (e : h[i]? = some p) (d : p ≠ .dead) :
    RelH K { g with pr := fun a => if a = g.ρ i then some (.frz od u) else g.pr a } (h.set i .dead) (upd H (g.ρ i) (.frz od u)) := by
  have hi : i < h.length := (List.getElem?_eq_some_iff.mp e).1
  have was : ∀ {j q}, (h.set i PO.dead)[j]? = some q → q ≠ PO.dead → j ≠ i ∧ h[j]? = some q := fun {j q} z dq => by
    by_cases hj : i = j
    · subst hj
      rw [List.getElem?_set_self hi] at z
      cases z
      exact (dq rfl).elim
    · rw [List.getElem?_set_ne hj] at z
      exact ⟨fun q => hj q.symm, z⟩
  have ne : ∀ {j q}, j ≠ i → h[j]? = some q → q ≠ PO.dead → g.ρ j ≠ g.ρ i := fun {j q} nj z dq z' => nj (r.inj j i q p z dq e d z')
  refine ⟨fun b w eb => ?_, fun j q z dq => ?_, fun j q z dq => r.sep j q (was z dq).2 dq, fun j k q q' z dq z' dq' er => r.inj j k q q' (was z dq).2 dq (was z' dq').2 dq' er, fun b w eb => ?_, fun a2 dd e2 z => let ⟨gs, e3, e4⟩ := r.ex a2 dd e2 z; ⟨gs, e3, by rw [List.length_set]; exact e4.mono0 (le0_pr _ _ _) (Nat.le_refl _)⟩⟩
  · have nb : b ≠ g.ρ i := fun z => by rw [z, r.sep i p e d] at eb; cases eb
    rw [upd_ne nb]; exact r.same b w eb
  · obtain ⟨nj, z⟩ := was z dq
    obtain ⟨u', hu, ru⟩ := r.cell j q z dq
    exact ⟨u', by rw [upd_ne (ne nj z dq)]; exact hu, by rw [List.length_set]; exact ru.mono0 (le0_pr _ _ _) (Nat.le_refl _)⟩
  · by_cases hb : b = g.ρ i
    · subst hb
      simp only [if_true] at eb
      cases eb
      exact ⟨upd_same, r.sep i p e d, fun j q z dq => ne (was z dq).1 (was z dq).2 dq⟩
    · simp only [if_neg hb] at eb
      obtain ⟨h1, h2, h3⟩ := r.fr b w eb
      exact ⟨by rw [upd_ne hb]; exact h1, h2, fun j q z dq => h3 j q (was z dq).2 dq⟩
/-- and unlocked -/
theorem RelH.unlock {g0 : Gh} {h0 : VH} {H0 : Hp} {i : Nat} {p : PO} {od : Obj} {u : HO} (r0 : RelH K g0 h0 H0) (e : h0[i]? = some p) (d : p ≠ .dead) (ro : RepO K g0 h0.length p u)
    (l : Gh.le { g0 with pr := fun a => if a = g0.ρ i then some (HO.frz od u) else g0.pr a } h0.length g) (r : RelH K g (h0.set i .dead) H) :
    g0.le h0.length { g with pr := g0.pr } ∧ RelH K { g with pr := g0.pr } h0 (upd H (g0.ρ i) u) ∧ H (g0.ρ i) = some (.frz od u) := by
  have hi : i < h0.length := (List.getElem?_eq_some_iff.mp e).1
  have hr : g.ρ i = g0.ρ i := l.rho i hi
  have hq : g.pr (g0.ρ i) = some (.frz od u) := by rw [l.pr]; simp
  obtain ⟨f1, f2, f3⟩ := r.fr _ _ hq
  have isS : ∀ {j q}, j ≠ i → h0[j]? = some q → (h0.set i PO.dead)[j]? = some q := fun {j q} nj z => by rw [List.getElem?_set_ne (fun z => nj z.symm)]; exact z
  refine ⟨⟨l.same, l.rho, rfl⟩, ⟨fun b w eb => ?_, fun j q z dq => ?_, fun j q z dq => ?_, fun j k q q' z dq z' dq' er => ?_, fun b w eb => ?_, fun a2 dd e2 z => ?_⟩, f1⟩
  · have nb : b ≠ g0.ρ i := fun z => by subst z; rw [show g.Hf (g0.ρ i) = some w from eb] at f2; cases f2
    rw [upd_ne nb]; exact r.same b w eb
  · by_cases hj : j = i
    · subst hj
      rw [e] at z; cases z
      exact ⟨u, by show upd H (g0.ρ j) u (g.ρ j) = _; rw [hr]; exact upd_same, (RepO.mono0 (g := g0) (g' := g) ⟨l.same, l.rho⟩ (Nat.le_refl _) ro).mono0 (le0_pr _ _ _) (Nat.le_refl _)⟩
    · obtain ⟨u', hu, ru⟩ := r.cell j q (isS hj z) dq
      have ne : g.ρ j ≠ g0.ρ i := f3 j q (isS hj z) dq
      exact ⟨u', by show upd H (g0.ρ i) u (g.ρ j) = _; rw [upd_ne ne]; exact hu, by rw [List.length_set] at ru; exact ru.mono0 (le0_pr _ _ _) (Nat.le_refl _)⟩
  · by_cases hj : j = i
    · subst hj; show g.Hf (g.ρ j) = none; rw [hr]; exact f2
    · exact r.sep j q (isS hj z) dq
  · by_cases hj : j = i
    · by_cases hk : k = i
      · rw [hj, hk]
      · subst hj
        exact (f3 k q' (isS hk z') dq' (by rw [← hr]; exact er.symm)).elim
    · by_cases hk : k = i
      · subst hk
        exact (f3 j q (isS hj z) dq (by rw [← hr]; exact er)).elim
      · exact r.inj j k q q' (isS hj z) dq (isS hk z') dq' er
  · have eb : g0.pr b = some w := eb
    obtain ⟨h1, h2, h3⟩ := r0.fr b w eb
    have nb : b ≠ g0.ρ i := fun z => h3 i p e d z.symm
    have eg : g.pr b = some w := by rw [l.pr]; simp [nb, eb]
    obtain ⟨k1, k2, k3⟩ := r.fr b w eg
    refine ⟨by rw [upd_ne nb]; exact k1, k2, fun j q z dq => ?_⟩
    by_cases hj : j = i
    · subst hj; show g.ρ j ≠ b; rw [hr]; exact fun z => nb z.symm
    · exact k3 j q (isS hj z) dq
  · obtain ⟨gs, e3, e4⟩ := r.ex a2 dd e2 z
    exact ⟨gs, e3, by rw [List.length_set] at e4; exact e4.mono0 (le0_pr _ _ _) (Nat.le_refl _)⟩
end
def intOf : PV → Int
  | .int i => i
  | _ => 0
open Classical in
/-- for v in d: if 2 * d[v] > ml: return v -/
noncomputable def sMaj (d v : Nat) (ml : EM) : SM := fun σ h => match σ[d]? with
  | some (some (.ref i)) => match h[i]? with
    | some (.dic false kvs) => match ml σ (h.set i .dead) with
      | .ok (.int n) h2 => if (h2 = h.set i .dead ∧ v < σ.length) ∧ ∀ p ∈ kvs, p.2 = .int (intOf p.2) ∧ ∀ k, pK p.1 = some k → dVal pK kvs k = some p.2 then
          (match kvs.find? (fun p => decide (n < 2 * intOf p.2)) with
          | some p => .rt p.1 h
          | none => .nx (σ.set v none) h) else .bad
      | _ => .bad
    | _ => .bad
  | _ => .bad
theorem sMaj_rt {d v i : Nat} {ml : EM} {σ : LS} {h : VH} {kvs : List (PV × PV)} {n : Int} {p : PV × PV} (e1 : σ[d]? = some (some (.ref i))) (e2 : h[i]? = some (.dic false kvs)) (e3 : ml σ (h.set i .dead) = .ok (.int n) (h.set i .dead))
    (e0 : v < σ.length) (e4 : ∀ p ∈ kvs, p.2 = .int (intOf p.2) ∧ ∀ k, pK p.1 = some k → dVal pK kvs k = some p.2) (e5 : kvs.find? (fun p => decide (n < 2 * intOf p.2)) = some p) : sMaj d v ml σ h = .rt p.1 h := by
  simp only [sMaj, e1, e2, e3, e5]
  rw [if_pos ⟨⟨rfl, e0⟩, e4⟩]
theorem sMaj_nx {d v i : Nat} {ml : EM} {σ : LS} {h : VH} {kvs : List (PV × PV)} {n : Int} (e1 : σ[d]? = some (some (.ref i))) (e2 : h[i]? = some (.dic false kvs)) (e3 : ml σ (h.set i .dead) = .ok (.int n) (h.set i .dead))
    (e0 : v < σ.length) (e4 : ∀ p ∈ kvs, p.2 = .int (intOf p.2) ∧ ∀ k, pK p.1 = some k → dVal pK kvs k = some p.2) (e5 : kvs.find? (fun p => decide (n < 2 * intOf p.2)) = none) : sMaj d v ml σ h = .nx (σ.set v none) h := by
  simp only [sMaj, e1, e2, e3, e5]
  rw [if_pos ⟨⟨rfl, e0⟩, e4⟩]
theorem RelS.drop {K : Kc} {g : Gh} {n : Nat} {σ : LS} {τ : L2.St} {v : Nat} {a : Option PV} (h : RelS K g n (σ.set v a) τ) : RelS K g n (σ.set v none) τ := by
  refine ⟨by rw [h.len, List.length_set, List.length_set], fun i w e => ?_⟩
  by_cases hi : v = i
  · subst hi
    by_cases hl : v < σ.length
    · rw [List.getElem?_set_self hl] at e; cases e
    · rw [List.getElem?_eq_none (by rw [List.length_set]; omega)] at e; cases e
  · rw [List.getElem?_set_ne hi] at e
    exact h.get i w (by rw [List.getElem?_set_ne hi]; exact e)
theorem RelS.drop0 {K : Kc} {g : Gh} {n : Nat} {σ : LS} {τ : L2.St} {v : Nat} (h : RelS K g n σ τ) : RelS K g n (σ.set v none) τ := by
  refine ⟨by rw [h.len, List.length_set], fun i w e => ?_⟩
  by_cases hi : v = i
  · subst hi
    by_cases hl : v < σ.length
    · rw [List.getElem?_set_self hl] at e; cases e
    · rw [List.getElem?_eq_none (by rw [List.length_set]; omega)] at e; cases e
  · rw [List.getElem?_set_ne hi] at e
    exact h.get i w e
theorem pK_rep {K : Kc} {g : Gh} {n : Nat} {y : PV} {k : Key} (e : pK y = some k) : Rep K g n y (kV k) := by
  cases y with
  | int i => cases e; simp only [Rep]; rfl
  | str i => cases e; simp only [Rep]; rfl
  | _ => cases e
theorem RepD.at {κ : Type} {K : Kc} {g : Gh} {n : Nat} {key : PV → Option κ} : ∀ {kvs : List (PV × PV)} {us : List (κ × V)} (i : Nat) (k : κ) (w : V), RepD K g n key kvs us → us[i]? = some (k, w) → ∃ y x, kvs[i]? = some (y, x) ∧ key y = some k ∧ Rep K g n x w
  | [], _, i, k, w, h, e => by simp only [RepD] at h; subst h; cases e
  | (y, x) :: xs, _, i, k, w, h, e => by
    simp only [RepD] at h
    obtain ⟨k', u, r, rfl, ek, a, b⟩ := h
    cases i with
    | zero => cases e; exact ⟨y, x, rfl, ek, a⟩
    | succ i => exact RepD.at i k w b e
theorem call1_set {f : List PV → VH → Res PV} {x v : Nat} (h : v ≠ x) (σ : LS) (a : Option PV) (h' : VH) : eCall f (aCons (eVar x) aNil) (σ.set v a) h' = eCall f (aCons (eVar x) aNil) σ h' := by
  simp only [eCall, aCons, aNil, eVar, List.getElem?_set_ne h]
section
variable {c : Ck} {X : Cx} {W : WX} {pos : Pos}
theorem walk_k {dd : Addr} {o : Obj} {kvs : List (Key × V)} : Walk (Itk dd o kvs) kvs.length (fun H => H dd = some (.frz o (.dK kvs))) (fun i H x H' => H' = H ∧ ∃ k v, kvs[i]? = some (k, v) ∧ x = kV k) :=
  ⟨fun _ _ hi g => ⟨g, hi⟩, fun _ g => ⟨g, Nat.le_refl _⟩, fun _ _ _ _ _ _ y => y⟩
theorem S1.maj {d v : Nat} {xd xv : Str} {le : Expr} {ml : EM} {j : Nat} {q0 q1 q2 q3 q4 q5 q6 q7 q8 q9 qa : Pos} (hp : PassesOwn (model X.prog X.w) X.A X.env X.xe) (hc : X.calm = true) (hu : X.A.units + 1 < cLine) (hn : X.N.Nodup)
    (hd : X.N[d]? = some xd) (hv : X.N[v]? = some xv) (vd : Vis X.env.scope xd) (vv : Vis X.env.scope xv) (lv : Loc X.env.scope xv) (hf : X.fn xv = true ∨ X.env.scope.names.lookup xv = some .local)
    (hl : SE c X W le ml) (hml : ∀ σ a h, ml (σ.set v a) h = ml σ h) (hdv : d ≠ v) (hm : behindInMarks .Gt le = false)
    (d1 : (xd == ("__debug__" : Str)) = false := by decide) (d2 : (xd == ("__classdict__" : Str)) = false := by decide) (d3 : (xv == ("__debug__" : Str)) = false := by decide) (d4 : (xv == ("__classdict__" : Str)) = false := by decide) (hs : ∀ x, foldedSetIterable (.Name xd q0) X.env x = pure x := by intro _; rfl) :
    S1 c X W (.For (.Name xv q1) (.Name xd q0) [.If (.Compare (.BinOp (.Constant (.int 2) j q2) .Mult (.Subscript (.Name xd q3) (.Name xv q4) q5) q6) [.Gt] [le] q7) [.Return (some (.Name xv q8)) q9] [] qa] [] pos) (sMaj d v ml) := by
  obtain ⟨tl, pl, sl⟩ := hl
  have pd : ∀ q, PE X (.Name xd q) (tVar d) := fun q => pe_var hd vd d1 d2
  have pv : ∀ q, PE X (.Name xv q) (tVar v) := fun q => pe_var hv vv d3 d4
  refine ⟨_, ps_lock (ps_for hp hc (pi_keys (pd q0)) (pg_name hn hv lv hf) (pss_one (ps_if (pt_cmpR op_gt (pe_op op_mulAll pe_int (pe_dget hu (pd q3) (pv q4) (by intro _ _; rfl))) pl hm) (pss_one (ps_ret (pv q8))) pss_nil)) hs), fun g σ h τ H D rs rh q => ?_⟩
  unfold sMaj at q
  split at q
  case h_2 => exact q.elim
  rename_i i es
  split at q
  case h_2 => exact q.elim
  rename_i kvs eh
  split at q
  case h_2 => exact q.elim
  rename_i n h2 em
  split at q
  case isFalse => exact q.elim
  rename_i cond
  obtain ⟨⟨rfl, hvl⟩, hint⟩ := cond
  obtain ⟨u, eu, ru⟩ := rs.get d _ es
  obtain ⟨hi, rfl⟩ : i < h.length ∧ u = .ref (g.ρ i) := by simpa only [Rep] using ru
  have nd : PO.dic false kvs ≠ PO.dead := by intro z; cases z
  obtain ⟨o, ho, us, rfl, rd⟩ := rh.cell i _ eh nd
  refine ⟨g.ρ i, .dK us, ho, trivial, fun od => ?_⟩
  have r1 := RelH.lock (od := od) (u := .dK us) rh eh nd
  refine ⟨_, eu, g.ρ i, od, rfl, .inl ⟨us, upd_same, ?_⟩⟩
  have ll : us.length = kvs.length := rd.length
  -- the walk
  refine for_it walk_k (fun k τ' H' => (∀ p ∈ kvs.take k, ¬ n < 2 * intOf p.2) ∧ ∃ g' σ', Gh.le { g with pr := fun a => if a = g.ρ i then some (HO.frz od (.dK us)) else g.pr a } h.length g' ∧ RelH (kx c X) g' (h.set i .dead) H' ∧ RelS (kx c X) g' h.length σ' τ' ∧ (σ' = σ ∨ ∃ a, σ' = σ.set v a))
    ⟨by simp, _, σ, Gh.le.refl _ _, r1, rs.mono0 (le0_pr _ _ _) (Nat.le_refl _), .inl rfl⟩ (fun k τ' H' _ hh => ?_) (fun k x τ' H2 H3 hk hh hy => ?_) fun τ' H' hh => ?_
  · obtain ⟨_, g', σ', l, rh', rs', _⟩ := hh
    exact (RelH.unlock rh eh nd ⟨us, rfl, rd⟩ l rh').2.2
  · obtain ⟨hno, g', σ', l, rh', rs', hσ⟩ := hh
    obtain ⟨rfl, kk, w, ek, rfl⟩ := hy
    obtain ⟨y, z, ey, epk, rz⟩ := RepD.at k kk w rd ek
    have hmem : (y, z) ∈ kvs := List.mem_of_getElem? ey
    obtain ⟨ez, hdv2⟩ := hint _ hmem
    have ez : z = .int (intOf z) := ez
    obtain ⟨w2, ew2, rw2⟩ := (RepD.val rd).1 z (hdv2 kk epk)
    have lσ : σ'.length = σ.length := by rcases hσ with rfl | ⟨a, rfl⟩ <;> simp
    have sd : σ'[d]? = some (some (.ref i)) := by
      rcases hσ with rfl | ⟨a, rfl⟩
      · exact es
      · rw [List.getElem?_set_ne (fun z => hdv z.symm)]; exact es
    have hr : g'.ρ i = g.ρ i := l.rho i hi
    obtain ⟨u2, eu2, ru2⟩ := rs'.get d _ sd
    obtain rfl : u2 = .ref (g.ρ i) := by
      have := (show i < h.length ∧ u2 = .ref (g'.ρ i) by simpa only [Rep] using ru2).2
      rw [this, hr]
    have rs2 : RelS (kx c X) g' h.length (σ'.set v (some y)) (τ'.set v (some (kV kk))) := rs'.set v (pK_rep epk)
    have ed : (τ'.set v (some (kV kk)))[d]? = some (some (.ref (g.ρ i))) := by rw [List.getElem?_set_ne (fun z => hdv z.symm)]; exact eu2
    have ev : (τ'.set v (some (kV kk)))[v]? = some (some (kV kk)) := List.getElem?_set_self (by rw [rs'.len, lσ]; exact hvl)
    have fz := (RelH.unlock rh eh nd ⟨us, rfl, rd⟩ l rh').2.2
    have ls : (h.set i PO.dead).length = h.length := List.length_set
    have eml : ml (σ'.set v (some y)) (h.set i .dead) = .ok (.int n) (h.set i .dead) := by
      rw [hml]
      rcases hσ with rfl | ⟨a, rfl⟩
      · exact em
      · rw [hml]; exact em
    refine ⟨_, ed, _, ev, g.ρ i, w2, rfl, .inl ⟨us, kk, .inr ⟨od, fz⟩, rfl, ew2.symm⟩, ?_⟩
    have rw3 : Rep (kx c X) g' (h.set i PO.dead).length z w2 := by
      rw [ls]; exact (RepO.mono0 (K := kx c X) (g := g) (g' := g') (n := h.length) (n' := h.length) ⟨l.same, l.rho⟩ (Nat.le_refl _) (o := .lst [z]) (u := .lst [w2]) ⟨[w2], rfl, by simpa [Reps] using rw2⟩) |> fun ⟨us3, e3, r3⟩ => by cases e3; simpa [Reps] using r3
    refine mulS false g' (h.set i .dead) H3 (.int 2) z (.int 2) w2 _ noX (by simp only [Rep]) rw3 rh' ?_
    rw [ez, mulP_l (by decide) (by decide)]
    intro g2 u3 H4 l3 n3 rh3 ru3
    simp only [Rep] at ru3
    subst ru3
    have rs3 : RelS (kx c X) g2 (h.set i .dead).length (σ'.set v (some y)) (τ'.set v (some (kV kk))) := rs2.mono (by rw [ls] at l3; exact l3) (by rw [ls]; exact Nat.le_refl _)
    refine sl g2 _ (h.set i .dead) _ H4 _ rs3 rh3 ?_
    rw [eml]
    intro g3 u4 H5 l4 n4 rh4 ru4
    simp only [Rep] at ru4
    subst ru4
    refine gtS g3 (h.set i .dead) H5 (.int (2 * intOf z)) (.int n) _ _ _ noX (by simp only [Rep]) (by simp only [Rep]) rh4 ?_
    rw [show gtP (.int (2 * intOf z)) (.int n) (h.set i .dead) = .ok (.bl (decide (n < 2 * intOf z))) (h.set i .dead) from rfl]
    intro g4 u5 H6 l5 n5 rh5 ru5
    simp only [Rep] at ru5
    subst ru5
    refine ⟨_, rfl, ?_⟩
    have l6 : Gh.le { g with pr := fun a => if a = g.ρ i then some (HO.frz od (.dK us)) else g.pr a } h.length g4 := by
      rw [ls] at l3 l4 l5
      exact ((l.trans l3 (Nat.le_refl _)).trans l4 (Nat.le_refl _)).trans l5 (Nat.le_refl _)
    have rs4 : RelS (kx c X) g4 h.length (σ'.set v (some y)) (τ'.set v (some (kV kk))) := by
      rw [ls] at l3 l4 l5
      exact rs2.mono ((l3.trans l4 (Nat.le_refl _)).trans l5 (Nat.le_refl _)) (Nat.le_refl _)
    obtain ⟨l7, r7, e7⟩ := RelH.unlock rh eh nd ⟨us, rfl, rd⟩ l6 rh5
    have hk' : k < kvs.length := by rw [← ll]; exact hk
    have ekv : kvs.take (k + 1) = kvs.take k ++ [(y, z)] := by
      rw [List.take_succ, ey]; rfl
    by_cases hgt : n < 2 * intOf z
    · dsimp only
      rw [if_pos (by simpa using hgt)]
      have ef : kvs.find? (fun p => decide (n < 2 * intOf p.2)) = some (y, z) := by
        rw [List.find?_eq_some_iff_append]
        refine ⟨by simpa using hgt, kvs.take k, kvs.drop (k + 1), ?_, fun p hp => by simpa using hno p hp⟩
        have e1 : kvs.drop k = (y, z) :: kvs.drop (k + 1) := by
          rw [List.drop_eq_getElem_cons hk']
          rw [List.getElem?_eq_getElem hk'] at ey
          rw [Option.some.inj ey]
        rw [← e1, List.take_append_drop]
      rw [ef] at q
      exact ⟨_, ev, e7, q _ _ _ l7 (Nat.le_refl _) r7 (pK_rep epk)⟩
    · dsimp only
      rw [if_neg (by simpa using hgt)]
      refine ⟨fun p hp => ?_, g4, _, l6, rh5, rs4, .inr ⟨some y, ?_⟩⟩
      · rw [ekv] at hp
        rcases List.mem_append.mp hp with hp | hp
        · exact hno p hp
        · rw [List.mem_singleton] at hp; subst hp; exact hgt
      · rcases hσ with rfl | ⟨a, rfl⟩
        · rfl
        · simp
  · obtain ⟨hno, g', σ', l, rh', rs', hσ⟩ := hh
    rw [ll, List.take_length] at hno
    obtain ⟨l2, r2, e2⟩ := RelH.unlock rh eh nd ⟨us, rfl, rd⟩ l rh'
    have ef : kvs.find? (fun p => decide (n < 2 * intOf p.2)) = none := by
      rw [List.find?_eq_none]; intro p hp; simpa using hno p hp
    rw [ef] at q
    refine ⟨e2, q _ τ' _ l2 (Nat.le_refl _) r2 ?_⟩
    have rs2 : RelS (kx c X) { g' with pr := g.pr } h.length σ' τ' := rs'.mono0 (le0_pr _ _ _) (Nat.le_refl _)
    rcases hσ with rfl | ⟨a, rfl⟩
    · exact rs2.drop0
    · exact rs2.drop
end
end Pm
namespace Pm
open PySem PySem.Spec L2 PyProof.Rows
/-! ### the length of an own object -/
theorem special_K {prog : Program} {w : World} {A : Around} {E : Value → Shared → Prop} {s : Shared} {K : PySem.W.Frag} {x C f : Addr} {od : Option Obj} {ox : Obj} {M : Model} {name : Str} {args : List Value} {Q : Option Value → Shared → Prop} (X : K.In s.heap) (I : PySem.W.InstAt s.heap x ox C od) (hs : PySem.W.findIn K (.ref C) name = some (some (.ref f))) (hf : PySem.W.isFn K (.ref f) = true)
    (h : wpAny M A (call (.ref f) (.ref x :: args)) (fun v => Q (some v)) E s) : wpAny M A (callSpecial? (.ref x) name args) Q E s := by
  unfold callSpecial?
  refine wpAny_bind (wpAny_bind (I.type.here ((PySem.W.looks_findIn X hs).here ?_)))
  refine wpAny_holding (wpAny_bind ((PySem.W.bind_fn X _ (beq_iff_eq.mp hf)).here ?_))
  exact wpAny_bind (wpAny_mono h (fun v s' h' => wpAny_pure h') fun _ _ h' => h')
def rLenO (C : Addr) (sp : Sp) : List V → Hp → VK → Prop := fun xs H Q => ∃ a dx fs, xs = [.ref a] ∧ H a = some (.ins C dx fs) ∧ sp [.ref a] H (fun v H' => ∃ n : Int, v = .int n ∧ 0 ≤ n ∧ n < 2 ^ 63 ∧ Q (.int n) H') (fun _ _ _ => False)
section
variable {c : Ck} {X : Cx} {W : WX} {k : Nat} {g : Addr} {fd : FuncData} {ps : List Str} {m : List PV → VH → Res PV}
theorem call_lenOwn {C : Addr} {sp : Sp} (me : Meth X.K C "__len__" g) (F : FnG X.prog X.w X.K X.mg X.base k g fd ps sp) (room : Room (k + 1) X.A) (gd : X.A.guards = some []) (bi : Binds X.K fd ps []) : CallR X (.builtin "len") (rLenO C sp) := by
  intro pins s τ H xs us Q I rv h
  obtain ⟨a, dx, fs, rfl, ea, h⟩ := h
  cases rv with
  | cons rv t =>
  cases t
  rename_i v
  obtain rfl : v = Value.ref a := rv
  obtain ⟨mA, O, _, _, _, _⟩ := ins_get I.hok ea
  obtain ⟨od, J, _⟩ := O.look
  have ln : ([Value.ref a] : List Value).length = ps.length := F.len _ _ _ _ h
  have bd := bi s [Value.ref a] I.kIn (by rw [List.append_nil]; exact ln)
  rw [List.append_nil] at bd
  refine Calls.call_function_entry kind_len plain_len entry_len (args_len1 _) ?_
  unfold Builtin.«len»
  refine wpAny_bind (m := oneArg "len" _) (wpAny_pure ?_)
  refine wpAny_bind (m := callSpecial? (.ref a) (Str.ofString "__len__")) (special_K (prog := X.prog) (w := X.w) I.kIn J me.at_ me.fn (wpAny_call (codeAny_mono (F.run X.A.in1 X.stack s H ⟨[.ref a], []⟩ [.ref a] [.ref a] _ _ room.in1 gd I.env0.in1 bd (.cons rfl .nil) h) fun r s' hq => ?_)))
  cases r with
  | error e =>
    obtain ⟨_, _, _, _, _, _, _, _, _, _, _, _, e⟩ := hq
    exact e.elim
  | ok fl =>
    cases fl with
    | ret u =>
      obtain ⟨v, H', I3, rv, n, rfl, h0, h1, q3⟩ := I.after hq
      obtain ⟨tk, rfl⟩ : ∃ tk, u = .int n tk := rv
      refine wpAny_bind (wpAny_holding (wpAny_pure ?_))
      refine wpAny_bind (wpAny_letGo ?_)
      show wpAny _ _ (if n < 0 then _ else _) _ _ _
      rw [if_neg (by omega)]
      show wpAny _ _ (if n ≥ 2 ^ 63 then _ else _) _ _ _
      rw [if_neg (by omega)]
      exact wpAny_bind (wpAny_mkInt (wpAny_pure ⟨_, rfl, ⟨.int n, H', I3.tok _, ⟨_, rfl⟩, q3⟩⟩))
    | next => exact hq.elim
    | brk => exact hq.elim
    | cont => exact hq.elim
def lenOP (C : Nat) (m : List PV → VH → Res PV) (xs : List PV) (h : VH) : Res PV := match xs with
  | [x] => match insAt x h with
    | some (D, _) => if D = C then (match m [x] h with
      | .ok (.int n) h' => if 0 ≤ n ∧ n < 2 ^ 63 then .ok (.int n) h' else .bad
      | _ => .bad) else .bad
    | none => .bad
  | _ => .bad
theorem lenOP_ok {C : Nat} {x : PV} {h h' : VH} {fs : List (Str × PV)} {n : Int} (e : insAt x h = some (C, fs)) (em : m [x] h = .ok (.int n) h') (h0 : 0 ≤ n) (h1 : n < 2 ^ 63) : lenOP C m [x] h = .ok (.int n) h' := by
  unfold lenOP; simp only [e, if_true, em]; rw [if_pos ⟨h0, h1⟩]
theorem lenOwnS {Cn : Nat} (F : FnS c X.prog X.w X.K X.mg X.base k g fd ps m) (hn : 1 = ps.length := by rfl) : CallS c X (rLenO (c Cn) (spOf (kx c X) ps.length m)) (lenOP Cn m) := fun g h H xs us Q E rx rh p => by
  unfold lenOP at p
  split at p
  · rename_i x
    obtain ⟨u, rfl, ru⟩ := rx.one
    split at p
    · rename_i D fs e1
      split at p
      · rename_i e2
        subst e2
        obtain ⟨a, dx, gs, rfl, hu, r⟩ := insAt_run ru rh e1
        refine ⟨a, dx, gs, rfl, hu, g, h, [x], hn, Reps.cons ru Reps.nil, rh, ?_⟩
        split at p
        · rename_i n h' em
          split at p
          · rename_i hb
            rw [em]
            exact fun g' u H' l hn rh ra => ⟨n, by simpa only [Rep] using ra, hb.1, hb.2, p g' (.int n) H' l hn rh (by simp only [Rep])⟩
          · exact p.elim
        · exact p.elim
      · exact p.elim
    · exact p.elim
  · exact p.elim
end
end Pm
namespace Pm
open PySem PySem.Spec L2 PyProof.Rows
/-! ### the text -/
def topS (i : Nat) : Stmt := PySem.Challenge.pw_sevenninths_k39_boxes.main.body.getD i (.Pass ⟨0, 0, 0, 0⟩)
abbrev s__law_take : Stmt := topS 16
theorem sc__law_take : FnScope ["_law_hand", "_law_many", "_law_at", "_law_draws_here"] ["_law_hand", "_law_many"] (defScope s__law_take) := ⟨rfl, rfl, rfl, by decide +kernel, rfl, by decide +kernel, by decide +kernel⟩
abbrev s_InvalidTable_init : Stmt := inClass (topS 5) 0
theorem sc_InvalidTable_init : FnScope ["self", "value"] ["self", "value"] (defScope s_InvalidTable_init) := ⟨rfl, rfl, rfl, by decide +kernel, rfl, by decide +kernel, by decide +kernel⟩
abbrev s_is_integer : Stmt := topS 8
theorem sc_is_integer : FnScope ["value"] ["value"] (defScope s_is_integer) := ⟨rfl, rfl, rfl, by decide +kernel, rfl, by decide +kernel, by decide +kernel⟩
abbrev s_is_number : Stmt := topS 9
theorem sc_is_number : FnScope ["value"] ["value"] (defScope s_is_number) := ⟨rfl, rfl, rfl, by decide +kernel, rfl, by decide +kernel, by decide +kernel⟩
abbrev s_Box_ddinitdd : Stmt := inClass (topS 13) 0
theorem sc_Box_ddinitdd : FnScope ["self", "table", "value"] ["self", "table"] (defScope s_Box_ddinitdd) := ⟨rfl, rfl, rfl, by decide +kernel, rfl, by decide +kernel, by decide +kernel⟩
abbrev s__law_draws : Stmt := topS 15
theorem sc__law_draws : FnScope ["_law_script", "_law_many", "_law_rests", "_law_cell", "_law_draws_here", "_law_k", "_law_at", "_law_mixed"] ["_law_script", "_law_many"] (defScope s__law_draws) := ⟨rfl, rfl, rfl, by decide +kernel, rfl, by decide +kernel, by decide +kernel⟩
abbrev s__law_number : Stmt := topS 17
theorem sc__law_number : FnScope ["_law_hand", "_law_kind"] ["_law_hand"] (defScope s__law_number) := ⟨rfl, rfl, rfl, by decide +kernel, rfl, by decide +kernel, by decide +kernel⟩
abbrev s_Box_ddlendd : Stmt := inClass (topS 13) 3
theorem sc_Box_ddlendd : FnScope ["self"] ["self"] (defScope s_Box_ddlendd) := ⟨rfl, rfl, rfl, by decide +kernel, rfl, by decide +kernel, by decide +kernel⟩
abbrev s_Box_asks : Stmt := inClass (topS 13) 2
theorem sc_Box_asks : FnScope ["self"] ["self"] (defScope s_Box_asks) := ⟨rfl, rfl, rfl, by decide +kernel, rfl, by decide +kernel, by decide +kernel⟩
abbrev s_is_below : Stmt := topS 10
theorem sc_is_below : FnScope ["value", "bound"] ["value", "bound"] (defScope s_is_below) := ⟨rfl, rfl, rfl, by decide +kernel, rfl, by decide +kernel, by decide +kernel⟩
abbrev s_InvalidNumber_init : Stmt := inClass (topS 2) 0
theorem sc_InvalidNumber_init : FnScope ["self", "value"] ["self", "value"] (defScope s_InvalidNumber_init) := ⟨rfl, rfl, rfl, by decide +kernel, rfl, by decide +kernel, by decide +kernel⟩
abbrev s_Box_ask : Stmt := inClass (topS 13) 1
theorem sc_Box_ask : FnScope ["self", "x"] ["self", "x"] (defScope s_Box_ask) := ⟨rfl, rfl, rfl, by decide +kernel, rfl, by decide +kernel, by decide +kernel⟩
abbrev s_InvalidMap_init : Stmt := inClass (topS 3) 0
theorem sc_InvalidMap_init : FnScope ["self", "value"] ["self", "value"] (defScope s_InvalidMap_init) := ⟨rfl, rfl, rfl, by decide +kernel, rfl, by decide +kernel, by decide +kernel⟩
abbrev s_InvalidSamples_init : Stmt := inClass (topS 4) 0
theorem sc_InvalidSamples_init : FnScope ["self", "value"] ["self", "value"] (defScope s_InvalidSamples_init) := ⟨rfl, rfl, rfl, by decide +kernel, rfl, by decide +kernel, by decide +kernel⟩
abbrev s_TooMany_init : Stmt := inClass (topS 6) 0
theorem sc_TooMany_init : FnScope ["self", "what"] ["self", "what"] (defScope s_TooMany_init) := ⟨rfl, rfl, rfl, by decide +kernel, rfl, by decide +kernel, by decide +kernel⟩
abbrev s__law_refusal : Stmt := topS 19
theorem sc__law_refusal : FnScope ["_law_box", "_law_x", "e", "_law_found"] ["_law_box", "_law_x"] (defScope s__law_refusal) := ⟨rfl, rfl, rfl, by decide +kernel, rfl, by decide +kernel, by decide +kernel⟩
abbrev s__law_refused : Stmt := topS 18
theorem sc__law_refused : FnScope ["_law_value"] ["_law_value"] (defScope s__law_refused) := ⟨rfl, rfl, rfl, by decide +kernel, rfl, by decide +kernel, by decide +kernel⟩
abbrev s_law : Stmt := topS 20
theorem sc_law : FnScope ["_law_script", "_law_hand", "_law_many", "_law_base", "_law_k", "_law_step", "_law_row", "_law_handed", "_law_box", "_law_other", "_law_asked", "_law_t", "_law_x", "_law_wrong", "_law_at", "_law_short", "_law_bad"] ["_law_script"] (defScope s_law) := ⟨rfl, rfl, rfl, by decide +kernel, rfl, by decide +kernel, by decide +kernel⟩
/-! ### the models -/
def tab : Tab := []
def sub_NinthError : Nat → Option Bool := fun C => [(4, true), (1, true)].lookup C
def xtab : Tab := [(.cls 4, .cls 2, false), (.cls 1, .cls 2, false), (.cls 4, .cls 1, false), (.cls 1, .cls 1, true), (.cls 4, .cls 3, false), (.cls 1, .cls 3, false), (.cls 4, .cls 4, true), (.cls 1, .cls 4, false), (.cls 4, .cls 5, false), (.cls 1, .cls 5, false), (.cls 4, .ty "ValueError", true), (.cls 1, .ty "ValueError", true)]
def xf_value : List Nat := [4, 1]
def xf_what : List Nat := []
noncomputable def m__law_take : List PV → VH → Res PV := fnRun 4 (sCons (sSet 2 (eBin ixP (eVar 0) (eC (.int 1))))
    (sCons (sAsg (eBin (addP false) (eVar 2) (eC (.int 1))) (gSubM (eVar 0) (eC (.int 1))))
    (sCons (sSet 3 (eBin ixP (eVar 0) (eC (.int 0))))
    (sCons (sIf (tVal (eBin geP (eVar 2) (eCall (one lenP) (aCons (eVar 3) aNil)))) (sRet (eC (.int 0))) sNil)
    (sRet (eBin modP (eBin divP (eCall (one intP) (aCons (eBin ixP (eVar 3) (eVar 2)) aNil)) (eC (.int 7))) (eVar 1)))))))
noncomputable def m_is_integer : List PV → VH → Res PV := fnRun 1 (sRet (eAndM (eCall (isiP tab) (aCons (eVar 0) (aCons (eC (.ty "int")) aNil))) (eNotM (eCall (isiP tab) (aCons (eVar 0) (aCons (eC (.ty "bool")) aNil))))))
noncomputable def m_is_number : List PV → VH → Res PV := fnRun 1 (sRet (eAndM (eCall m_is_integer (aCons (eVar 0) aNil)) (eBin geP (eVar 0) (eC (.int 0)))))
noncomputable def m_Box_ddinitdd : List PV → VH → Res PV := fnRun 3 (sCons (sIf (tOrM (tNotM (tVal (eCall (isiP tab) (aCons (eVar 1) (aCons (eTup (aCons (eC (.ty "tuple")) (aCons (eC (.ty "list")) aNil))) aNil))))) (tNotM (tVal (eChain leP leP (eC (.int 1)) (eCall (one lenP) (aCons (eVar 1) aNil)) (eC (.int 128)))))) (sRaise 4 ["value"] (aCons (eVar 1) aNil)) sNil)
    (sCons (sIf (tNotM (tVal (eCall (one allP) (aCons (eLc false (iSeq (eVar 1)) [2] (gSlot 2) tYesM (eCall m_is_number (aCons (eVar 2) aNil))) aNil)))) (sRaise 4 ["value"] (aCons (eVar 1) aNil)) sNil)
    (sCons (sFldM 6 "table" (eVar 0) (eCall (one tupleP) (aCons (eVar 1) aNil)))
    (sFldM 6 "asked" (eVar 0) (eC (.int 0))))))
noncomputable def m__law_draws : List PV → VH → Res PV := fnRun 8 (sCons (sSet 2 (eLc true (iSeq (eVar 0)) [3] (gSlot 3) tYesM (eCall (one absP) (aCons (eCall (one intP) (aCons (eVar 3) aNil)) aNil))))
    (sCons (sSet 4 (eLst true aNil))
    (sCons (sFor (iRng (aCons (eVar 1) aNil)) (gSlot 5) (sCons (sSet 3 (eVar 5))
    (sCons (sIf (tVal (eBin gtP (eCall (one lenP) (aCons (eVar 0) aNil)) (eC (.int 0)))) (sCons (sSet 6 (eBin modP (eVar 5) (eCall (one lenP) (aCons (eVar 0) aNil))))
    (sCons (sSet 3 (eCall (one intP) (aCons (eBin ixP (eVar 0) (eVar 6)) aNil)))
    (sIf (tAndM (tVal (eBin geP (eVar 3) (eBin powP (eC (.int 10)) (eC (.int 18))))) (tVal (eBin gtP (eBin ixP (eVar 2) (eVar 6)) (eC (.int 0))))) (sCons (sDrop (eLm appendP (eVar 4) (aCons (eBin modP (eCall (one intP) (aCons (eBin ixP (eVar 2) (eVar 6)) aNil)) (eC (.int 1000003))) aNil)))
    (sCons (sAsg (eBin divP (eCall (one intP) (aCons (eBin ixP (eVar 2) (eVar 6)) aNil)) (eC (.int 1000003))) (gSubM (eVar 2) (eVar 6)))
    sCnt)) sNil))) sNil)
    (sCons (sSet 7 (eBin modP (eCall (one intP) (aCons (eBin (addP false) (eBin (addP false) (eBin (mulP false) (eVar 3) (eC (.int 48271))) (eBin (mulP false) (eVar 5) (eC (.int 69621)))) (eC (.int 11))) aNil)) (eC (.int 2147483647))))
    (sCons (sSet 7 (eBin modP (eCall (one intP) (aCons (eBin (addP false) (eBin divP (eBin (mulP false) (eVar 7) (eVar 7)) (eC (.int 4096))) (eVar 7)) aNil)) (eC (.int 2147483629))))
    (sDrop (eLm appendP (eVar 4) (aCons (eBin modP (eCall (one intP) (aCons (eBin (addP false) (eBin divP (eBin (mulP false) (eVar 7) (eVar 7)) (eC (.int 4096))) (eBin (mulP false) (eVar 5) (eC (.int 7919)))) aNil)) (eC (.int 2147483629))) aNil))))))))
    (sRet (eFrz (eVar 4))))))
noncomputable def m__law_number : List PV → VH → Res PV := fnRun 2 (sCons (sSet 1 (eCall m__law_take (aCons (eVar 0) (aCons (eC (.int 4)) aNil))))
    (sCons (sIf (tVal (eBin ltP (eVar 1) (eC (.int 3)))) (sRet (eBin ixP (eLst false (aCons (eCall m__law_take (aCons (eVar 0) (aCons (eC (.int 3)) aNil))) (aCons (eCall m__law_take (aCons (eVar 0) (aCons (eC (.int 100)) aNil))) (aCons (eCall m__law_take (aCons (eVar 0) (aCons (eBin powP (eC (.int 10)) (eC (.int 6))) aNil))) aNil)))) (eVar 1))) sNil)
    (sRet (eBin (addP false) (eBin (mulP false) (eCall m__law_take (aCons (eVar 0) (aCons (eBin powP (eC (.int 10)) (eC (.int 6))) aNil))) (eBin powP (eC (.int 10)) (eC (.int 24)))) (eCall m__law_take (aCons (eVar 0) (aCons (eBin powP (eC (.int 10)) (eC (.int 6))) aNil)))))))
noncomputable def m_Box_ddlendd : List PV → VH → Res PV := fnRun 1 (sRet (eCall (one lenP) (aCons (eFld 6 "table" (eVar 0)) aNil)))
noncomputable def m_Box_asks : List PV → VH → Res PV := fnRun 1 (sRet (eFld 6 "asked" (eVar 0)))
noncomputable def m_is_below : List PV → VH → Res PV := fnRun 2 (sRet (eAndM (eCall m_is_integer (aCons (eVar 0) aNil)) (eChain leP ltP (eC (.int 0)) (eVar 0) (eVar 1))))
noncomputable def m_Box_ask : List PV → VH → Res PV := fnRun 2 (sCons (sIf (tNotM (tVal (eCall m_is_below (aCons (eVar 1) (aCons (eCall (one lenP) (aCons (eFld 6 "table" (eVar 0)) aNil)) aNil))))) (sRaise 1 ["value"] (aCons (eVar 1) aNil)) sNil)
    (sCons (sFldAugM 6 "asked" (eVar 0) (eC (.int 1)))
    (sRet (eBin ixP (eFld 6 "table" (eVar 0)) (eVar 1)))))
noncomputable def m__law_refusal : List PV → VH → Res PV := fnRun 4 (sCons (sTry sub_NinthError (some 2) (sIf (tVal (eBin (isN false) (eVar 0) (eC .non))) (sDrop (eMake 6 m_Box_ddinitdd (aCons (eVar 1) aNil))) (sDrop (eMeth 6 "ask" m_Box_ask (eVar 0) (aCons (eVar 1) aNil)))) (fun e => (sCons (sSet 3 (eLst true aNil))
    (sCons (sIf (tVal (eIsx xtab e 2 (.cls 1))) (sDrop (eLm appendP (eVar 3) (aCons (eTup (aCons (eC (.str "number")) (aCons (eCall (one reprP) (aCons (eXf xf_value e 2 "value") aNil)) aNil))) aNil))) sNil)
    (sCons (sIf (tVal (eIsx xtab e 2 (.cls 4))) (sDrop (eLm appendP (eVar 3) (aCons (eTup (aCons (eC (.str "table")) (aCons (eCall (one reprP) (aCons (eXf xf_value e 2 "value") aNil)) aNil))) aNil))) sNil)
    (sCons (sIf (tVal (eIsx xtab e 2 (.cls 2))) (sDrop (eLm appendP (eVar 3) (aCons (eTup (aCons (eC (.str "map")) (aCons (eCall (one reprP) (aCons (eXf xf_value e 2 "value") aNil)) aNil))) aNil))) sNil)
    (sCons (sIf (tVal (eIsx xtab e 2 (.cls 3))) (sDrop (eLm appendP (eVar 3) (aCons (eTup (aCons (eC (.str "samples")) (aCons (eCall (one reprP) (aCons (eXf xf_value e 2 "value") aNil)) aNil))) aNil))) sNil)
    (sCons (sIf (tVal (eIsx xtab e 2 (.cls 5))) (sDrop (eLm appendP (eVar 3) (aCons (eTup (aCons (eC (.str "many")) (aCons (eCall (one reprP) (aCons (eXf xf_what e 2 "what") aNil)) aNil))) aNil))) sNil)
    (sCons (sIf (tNotM (tVal (eIsx xtab e 2 (.ty "ValueError")))) (sDrop (eLm appendP (eVar 3) (aCons (eTup (aCons (eC (.str "refused")) (aCons (eC (.str "")) aNil))) aNil))) sNil)
    (sRet (eFrz (eVar 3))))))))))))
    (sRet (eLst false aNil)))
noncomputable def m__law_refused : List PV → VH → Res PV := fnRun 1 (sRet (eBin eqP (eCall m__law_refusal (aCons (eC .non) (aCons (eVar 0) aNil))) (eLst false (aCons (eTup (aCons (eC (.str "table")) (aCons (eCall (one reprP) (aCons (eVar 0) aNil)) aNil))) aNil))))
noncomputable def m_law : List PV → VH → Res PV := fnRun 17 (sCons (sSet 1 (eLst true (aCons (eCall m__law_draws (aCons (eVar 0) (aCons (eC (.int 260)) aNil))) (aCons (eC (.int 0)) aNil))))
    (sCons (sSet 2 (eBin ixP (eLst false (aCons (eC (.int 1)) (aCons (eC (.int 2)) (aCons (eC (.int 3)) (aCons (eC (.int 128)) (aCons (eBin (addP false) (eC (.int 1)) (eCall m__law_take (aCons (eVar 1) (aCons (eC (.int 128)) aNil)))) (aCons (eBin (addP false) (eC (.int 1)) (eCall m__law_take (aCons (eVar 1) (aCons (eC (.int 20)) aNil)))) aNil))))))) (eCall m__law_take (aCons (eVar 1) (aCons (eC (.int 6)) aNil)))))
    (sCons (sSet 3 (eLc false (iRng (aCons (eC (.int 10)) aNil)) [4] (gSlot 4) tYesM (eCall m__law_number (aCons (eVar 1) aNil))))
    (sCons (sSet 5 (eCall m__law_take (aCons (eVar 1) (aCons (eC (.int 1000)) aNil))))
    (sCons (sSet 6 (eLc false (iRng (aCons (eVar 2) aNil)) [4] (gSlot 4) tYesM (eBin (addP false) (eBin ixP (eVar 3) (eBin modP (eCall (one intP) (aCons (eVar 4) aNil)) (eC (.int 10)))) (eBin (mulP false) (eBin divP (eVar 4) (eC (.int 10))) (eVar 5)))))
    (sCons (sSet 7 (eCall (one (listP true)) (aCons (eVar 6) aNil)))
    (sCons (sSet 8 (eMake 6 m_Box_ddinitdd (aCons (eBin ixP (eLst false (aCons (eVar 7) (aCons (eCall (one tupleP) (aCons (eVar 7) aNil)) aNil))) (eCall m__law_take (aCons (eVar 1) (aCons (eC (.int 2)) aNil)))) aNil)))
    (sCons (sSet 9 (eMake 6 m_Box_ddinitdd (aCons (eVar 6) aNil)))
    (sCons (sDrop (eLm appendP (eVar 7) (aCons (eC (.int 5)) aNil)))
    (sCons (sAsg (eBin (addP false) (eBin ixP (eVar 7) (eC (.int 0))) (eC (.int 1))) (gSubM (eVar 7) (eC (.int 0))))
    (sCons (sIf (tOrM (tVal (eBin neP (eCall (one reprP) (aCons (eFld 6 "table" (eVar 8)) aNil)) (eCall (one reprP) (aCons (eCall (one tupleP) (aCons (eVar 6) aNil)) aNil)))) (tOrM (tVal (eBin neP (eCall (one reprP) (aCons (eCall (lenOP 6 m_Box_ddlendd) (aCons (eVar 8) aNil)) aNil)) (eCall (one reprP) (aCons (eVar 2) aNil)))) (tVal (eBin neP (eCall (one reprP) (aCons (eProp 6 m_Box_asks (eVar 8)) aNil)) (eC (.str "0")))))) (sRet (eC (.bl false))) sNil)
    (sCons (sSet 10 (eC (.int 0)))
    (sCons (sFor (iRng (aCons (eC (.int 12)) aNil)) (gSlot 11) (sCons (sSet 12 (eCall m__law_take (aCons (eVar 1) (aCons (eVar 2) aNil))))
    (sCons (sIf (tVal (eBin eqP (eCall m__law_take (aCons (eVar 1) (aCons (eC (.int 3)) aNil))) (eC (.int 0)))) (sCons (sSet 13 (eBin ixP (eLst false (aCons (eVar 2) (aCons (eUn negP (eC (.int 1))) (aCons (eC (.bl true)) (aCons (eC (.bl false)) (aCons (eC .non) (aCons (eC (.str "0")) (aCons (eTup (aCons (eC (.int 0)) aNil)) (aCons (eLst false (aCons (eC (.int 0)) aNil)) (aCons (eBin (addP false) (eVar 2) (eVar 12)) (aCons (eBin powP (eC (.int 10)) (eC (.int 29))) aNil))))))))))) (eCall m__law_take (aCons (eVar 1) (aCons (eC (.int 10)) aNil)))))
    (sIf (tVal (eBin neP (eCall m__law_refusal (aCons (eVar 8) (aCons (eVar 13) aNil))) (eLst false (aCons (eTup (aCons (eC (.str "number")) (aCons (eCall (one reprP) (aCons (eVar 13) aNil)) aNil))) aNil)))) (sRet (eC (.bl false))) sNil)) (sCons (sIf (tVal (eBin neP (eCall (one reprP) (aCons (eMeth 6 "ask" m_Box_ask (eVar 8) (aCons (eVar 12) aNil)) aNil)) (eCall (one reprP) (aCons (eBin ixP (eVar 6) (eVar 12)) aNil)))) (sRet (eC (.bl false))) sNil)
    (sSet 10 (eBin (addP false) (eVar 10) (eC (.int 1))))))
    (sIf (tVal (eBin neP (eCall (one reprP) (aCons (eProp 6 m_Box_asks (eVar 8)) aNil)) (eCall (one reprP) (aCons (eVar 10) aNil)))) (sRet (eC (.bl false))) sNil))))
    (sCons (sIf (tOrM (tVal (eBin neP (eCall (one reprP) (aCons (eProp 6 m_Box_asks (eVar 9)) aNil)) (eC (.str "0")))) (tOrM (tVal (eBin neP (eCall (one reprP) (aCons (eMeth 6 "ask" m_Box_ask (eVar 9) (aCons (eBin subP (eVar 2) (eC (.int 1))) aNil)) aNil)) (eCall (one reprP) (aCons (eBin ixP (eVar 6) (eUn negP (eC (.int 1)))) aNil)))) (tVal (eBin neP (eCall (one reprP) (aCons (eProp 6 m_Box_asks (eVar 9)) aNil)) (eC (.str "1")))))) (sRet (eC (.bl false))) sNil)
    (sCons (sSet 14 (eCall m__law_take (aCons (eVar 1) (aCons (eCall minP (aCons (eVar 2) (aCons (eC (.int 100)) aNil))) aNil))))
    (sCons (sSet 15 (eSl false (eVar 6) oNone (oSome (eC (.int 100)))))
    (sCons (sFor (iSeq (eLst false (aCons (eUn negP (eC (.int 1))) (aCons (eC (.bl true)) (aCons (eC (.bl false)) (aCons (eC .non) (aCons (eC (.str "1")) (aCons (eTup (aCons (eC (.int 1)) aNil)) (aCons (eLst false (aCons (eC (.int 1)) aNil)) aNil))))))))) (gSlot 16) (sIf (tNotM (tVal (eCall m__law_refused (aCons (eBin (addP false) (eBin (addP false) (eSl false (eVar 15) oNone (oSome (eVar 14))) (eLst false (aCons (eVar 16) aNil))) (eSl false (eVar 15) (oSome (eBin (addP false) (eVar 14) (eC (.int 1)))) oNone)) aNil)))) (sRet (eC (.bl false))) sNil))
    (sCons (sFor (iSeq (eLst false (aCons (eLst false aNil) (aCons (eTup aNil) (aCons (eC .non) (aCons (eC (.int 3)) (aCons (eC (.str "12")) (aCons (eC (.bl true)) (aCons (eBin (mulP false) (eLst false (aCons (eC (.int 1)) aNil)) (eC (.int 129))) (aCons (eBin (mulP false) (eTup (aCons (eC (.int 0)) aNil)) (eC (.int 200))) aNil)))))))))) (gSlot 16) (sIf (tNotM (tVal (eCall m__law_refused (aCons (eVar 16) aNil)))) (sRet (eC (.bl false))) sNil))
    (sRet (eAndM (eBin eqP (eCall (one reprP) (aCons (eProp 6 m_Box_asks (eVar 8)) aNil)) (eCall (one reprP) (aCons (eVar 10) aNil))) (eBin eqP (eCall (one reprP) (aCons (eFld 6 "table" (eVar 8)) aNil)) (eCall (one reprP) (aCons (eCall (one tupleP) (aCons (eVar 6) aNil)) aNil)))))))))))))))))))))))
/-! ### what the top has written -/
structure Txt (K : PySem.W.Frag) (mg : Str → Option Value) (c : Ck) (fa : Nat → Addr) (fd : Nat → FuncData) : Prop where
  ex : c.ex = none
  tab : TabOk c K tab
  b_len : mg "len" = none
  b_int : mg "int" = none
  b_isinstance : mg "isinstance" = none
  b_bool : mg "bool" = none
  b_tuple : mg "tuple" = none
  b_list : mg "list" = none
  b_all : mg "all" = none
  b_abs : mg "abs" = none
  b_range : mg "range" = none
  b_repr : mg "repr" = none
  b_ValueError : mg "ValueError" = none
  b_min : mg "min" = none
  g_MOST_PLACES : ∃ t, mg "MOST_PLACES" = some (.int 128 t)
  cl_Box : Cls K (c 6)
  na_Box_asked : NoAttr K (c 6) "asked"
  na_Box_table : NoAttr K (c 6) "table"
  me_Box___len__ : Meth K (c 6) "__len__" (fa 11)
  me_Box_ask : Meth K (c 6) "ask" (fa 9)
  pr_Box_asks : ∃ p, PropOf K (c 6) "asks" p (fa 10)
  mk_Box : Mk K (c 6) (fa 8)
  c_Box : mg "Box" = some (.ref (c 6))
  f__law_take : Fd K mg "_law_take" "_law_take" s__law_take ["_law_hand", "_law_many"] (fa 13) (fd 13)
  x_InvalidTable : Xc K mg "InvalidTable" "InvalidTable.__init__" s_InvalidTable_init ["self", "value"] (c 4) (fa 3) (fd 3)
  n_InvalidTable_value : PySem.W.findIn K (.ref (c 4)) "value" = some none
  f_is_integer : Fd K mg "is_integer" "is_integer" s_is_integer ["value"] (fa 5) (fd 5)
  f_is_number : Fd K mg "is_number" "is_number" s_is_number ["value"] (fa 6) (fd 6)
  f_Box_ddinitdd : Fm K "__init__" "Box.__init__" s_Box_ddinitdd ["self", "table"] (fa 8) (fd 8)
  f__law_draws : Fd K mg "_law_draws" "_law_draws" s__law_draws ["_law_script", "_law_many"] (fa 12) (fd 12)
  f__law_number : Fd K mg "_law_number" "_law_number" s__law_number ["_law_hand"] (fa 14) (fd 14)
  f_Box_ddlendd : Fm K "__len__" "Box.__len__" s_Box_ddlendd ["self"] (fa 11) (fd 11)
  f_Box_asks : Fm K "asks" "Box.asks" s_Box_asks ["self"] (fa 10) (fd 10)
  f_is_below : Fd K mg "is_below" "is_below" s_is_below ["value", "bound"] (fa 7) (fd 7)
  x_InvalidNumber : Xc K mg "InvalidNumber" "InvalidNumber.__init__" s_InvalidNumber_init ["self", "value"] (c 1) (fa 0) (fd 0)
  n_InvalidNumber_value : PySem.W.findIn K (.ref (c 1)) "value" = some none
  f_Box_ask : Fm K "ask" "Box.ask" s_Box_ask ["self", "x"] (fa 9) (fd 9)
  x_InvalidMap : Xc K mg "InvalidMap" "InvalidMap.__init__" s_InvalidMap_init ["self", "value"] (c 2) (fa 1) (fd 1)
  n_InvalidMap_value : PySem.W.findIn K (.ref (c 2)) "value" = some none
  x_InvalidSamples : Xc K mg "InvalidSamples" "InvalidSamples.__init__" s_InvalidSamples_init ["self", "value"] (c 3) (fa 2) (fd 2)
  n_InvalidSamples_value : PySem.W.findIn K (.ref (c 3)) "value" = some none
  x_TooMany : Xc K mg "TooMany" "TooMany.__init__" s_TooMany_init ["self", "what"] (c 5) (fa 4) (fd 4)
  n_TooMany_what : PySem.W.findIn K (.ref (c 5)) "what" = some none
  f__law_refusal : Fd K mg "_law_refusal" "_law_refusal" s__law_refusal ["_law_box", "_law_x"] (fa 16) (fd 16)
  f__law_refused : Fd K mg "_law_refused" "_law_refused" s__law_refused ["_law_value"] (fa 15) (fd 15)
  f_law : Fd K mg "law" "law" s_law ["_law_script"] (fa 17) (fd 17)
  xtab : XTab c K xtab
  c_NinthError : mg "NinthError" = some (.ref (c 0))
  sub_NinthError : ∀ C b, sub_NinthError C = some b → PySem.W.exmOne K (.ref (c C)) (.ref (c 0)) = some b
  c_InvalidMap : mg "InvalidMap" = some (.ref (c 2))
  c_InvalidNumber : mg "InvalidNumber" = some (.ref (c 1))
  c_InvalidSamples : mg "InvalidSamples" = some (.ref (c 3))
  c_InvalidTable : mg "InvalidTable" = some (.ref (c 4))
  c_TooMany : mg "TooMany" = some (.ref (c 5))
  xf_value : ∀ n ∈ xf_value, XfC K (c n) ∧ PySem.W.findIn K (.ref (c n)) "value" = some none
  xf_what : ∀ n ∈ xf_what, XfC K (c n) ∧ PySem.W.findIn K (.ref (c n)) "what" = some none
section
variable {P : Program} {w : World} {K : PySem.W.Frag} {mg : Str → Option Value} {base : Heap} {c : Ck} {fa : Nat → Addr} {fd : Nat → FuncData}
theorem ok__law_take (T : Txt K mg c fa fd) : FnS c P w K mg base 1 (fa 13) (fd 13) ["_law_hand", "_law_many"] m__law_take := by
  have sc := sc__law_take
  refine FnS.of T.f__law_take.F sc fun cdv A outer s H E hr hgd => ?_
  have tk0 := takes_of (X := cxOf (L2.CX P w) P w K mg base ["_law_hand", "_law_many", "_law_at", "_law_draws_here"] "_law_take" (defScope s__law_take) (fa 13) cdv A outer s H E) (E := E) rfl rfl rfl rfl
  have hp0 := passes_of (X := cxOf (L2.CX P w) P w K mg base ["_law_hand", "_law_many", "_law_at", "_law_draws_here"] "_law_take" (defScope s__law_take) (fa 13) cdv A outer s H E) rfl
  exact (SS.cons (S1.set sc.nd rfl (.inl rfl) (SE.ix (SE.var 0) SE.int))
    (SS.cons (S1.asg (SE.op op_addAll (addS false) (SE.var 2) SE.int) (SG.sub (W := WF E) (SE.var 0) SE.int))
    (SS.cons (S1.set sc.nd rfl (.inl rfl) (SE.ix (SE.var 0) SE.int))
    (SS.cons (S1.ite (ST.cmp op_ge geS (SE.var 2) (SE.callB call_lenAll lenS (by rfl) T.b_len PySem.boot_len (SA.cons (SE.var 3) SA.nil)) (nomark _)) (SS.one (S1.ret SE.int)) SS.nil)
    (SS.one (S1.ret (SE.op op_mod modS (SE.op op_div divS (SE.callTy call_intAll intS (by rfl) T.b_int (by rfl) (SA.cons (SE.ix (SE.var 3) (SE.var 2)) SA.nil)) SE.int) (SE.var 1))))))))
theorem ok_InvalidTable_init (T : Txt K mg c fa fd) : FnOk P w K mg base (L2.CX P w) 1 (fa 3) (fd 3) ["self", "value"] (spX1 (c 4) "value") := by
  refine T.x_InvalidTable.F.okX sc_InvalidTable_init (fun vs H Q E h => ?_) fun cdv A outer s H vs Q E hr h => ⟨_, pss_one (ps_ost (pv 0) (pv 1)), initX1 T.x_InvalidTable.T T.n_InvalidTable_value rfl h⟩
  obtain ⟨a, w, rfl, _⟩ := h
  rfl
theorem ok_is_integer (T : Txt K mg c fa fd) : FnS c P w K mg base 1 (fa 5) (fd 5) ["value"] m_is_integer := by
  have sc := sc_is_integer
  refine FnS.of T.f_is_integer.F sc fun cdv A outer s H E hr hgd => ?_
  have tk0 := takes_of (X := cxOf (L2.CX P w) P w K mg base ["value"] "is_integer" (defScope s_is_integer) (fa 5) cdv A outer s H E) (E := E) rfl rfl rfl rfl
  have hp0 := passes_of (X := cxOf (L2.CX P w) P w K mg base ["value"] "is_integer" (defScope s_is_integer) (fa 5) cdv A outer s H E) rfl
  exact (SS.one (S1.ret (SE.and (SE.callB call_isiAll (isiS T.tab) (by rfl) T.b_isinstance (by rfl) (SA.cons (SE.var 0) (SA.cons (SE.bty (by rfl) T.b_int (by rfl)) SA.nil))) (SE.one (SE.not (SE.callB call_isiAll (isiS T.tab) (by rfl) T.b_isinstance (by rfl) (SA.cons (SE.var 0) (SA.cons (SE.bty (by rfl) T.b_bool (by rfl)) SA.nil))))))))
theorem ok_is_number (T : Txt K mg c fa fd) : FnS c P w K mg base 2 (fa 6) (fd 6) ["value"] m_is_number := by
  have sc := sc_is_number
  refine FnS.of T.f_is_number.F sc fun cdv A outer s H E hr hgd => ?_
  have tk0 := takes_of (X := cxOf (L2.CX P w) P w K mg base ["value"] "is_number" (defScope s_is_number) (fa 6) cdv A outer s H E) (E := E) rfl rfl rfl rfl
  have hp0 := passes_of (X := cxOf (L2.CX P w) P w K mg base ["value"] "is_number" (defScope s_is_number) (fa 6) cdv A outer s H E) rfl
  exact (SS.one (S1.ret (SE.and (SE.call (ok_is_integer T) (hr.mono (by decide)) hgd (by rfl) T.f_is_integer.m T.f_is_integer.F.kp T.f_is_integer.b tk0 (SA.cons (SE.var 0) SA.nil)) (SE.one (SE.cmp op_ge geS (SE.var 0) SE.int (nomark _))))))
theorem ok_Box_ddinitdd (T : Txt K mg c fa fd) : FnS c P w K mg base 3 (fa 8) (fd 8) ["self", "table"] m_Box_ddinitdd := by
  have sc := sc_Box_ddinitdd
  refine FnS.of T.f_Box_ddinitdd.F sc fun cdv A outer s H E hr hgd => ?_
  have tk0 := takes_of (X := cxOf (L2.CX P w) P w K mg base ["self", "table", "value"] "Box.__init__" (defScope s_Box_ddinitdd) (fa 8) cdv A outer s H E) (E := E) rfl rfl rfl rfl
  have hp0 := passes_of (X := cxOf (L2.CX P w) P w K mg base ["self", "table", "value"] "Box.__init__" (defScope s_Box_ddinitdd) (fa 8) cdv A outer s H E) rfl
  exact (SS.cons (S1.ite (SW.st (SW.or (ST.not (ST.val (SE.callB call_isiAll (isiS T.tab) (by rfl) T.b_isinstance (by rfl) (SA.cons (SE.var 1) (SA.cons (SE.tup (SA.cons (SE.bty (by rfl) T.b_tuple (by rfl)) (SA.cons (SE.bty (by rfl) T.b_list (by rfl)) SA.nil))) SA.nil))))) (SW.or1 (ST.not (ST.chain op_le op_le leS leS SE.int (SE.callB call_lenAll lenS (by rfl) T.b_len PySem.boot_len (SA.cons (SE.var 1) SA.nil)) (SE.globI (by rfl) T.g_MOST_PLACES)))))) (SS.one (S1.raise1 T.x_InvalidTable.T T.x_InvalidTable.i T.x_InvalidTable.t (ok_InvalidTable_init T) (hr.mono (by decide)) T.x_InvalidTable.b (passes_call tk0 fun _ _ _ _ z => z.elim) (by rfl) T.x_InvalidTable.m (SA.cons (SE.var 1) SA.nil) rfl tk0)) SS.nil)
    (SS.cons (S1.ite (ST.not (ST.val (SE.callB (cr_all rfl) allS (by rfl) T.b_all (by rfl) (SA.cons (SE.lc (own := [("value", 2)]) false rfl sc.nd (SI.seq (SE.var 1)) (by exact blkOk_by (N := ["self", "table", "value"]) (sc := defScope s_Box_ddinitdd) (by decide +kernel)) (fun _ _ _ _ _ => (SGw.name sc.nd rfl (.inl rfl) (by decide))) (fun _ _ _ _ _ => STs.nil) (fun _ _ _ _ _ => (SE.call (ok_is_number T) (hr.mono (by decide)) hgd (by rfl) T.f_is_number.m T.f_is_number.F.kp T.f_is_number.b takes0 (SA.cons (SE.var 2) SA.nil)))) SA.nil)))) (SS.one (S1.raise1 T.x_InvalidTable.T T.x_InvalidTable.i T.x_InvalidTable.t (ok_InvalidTable_init T) (hr.mono (by decide)) T.x_InvalidTable.b (passes_call tk0 fun _ _ _ _ z => z.elim) (by rfl) T.x_InvalidTable.m (SA.cons (SE.var 1) SA.nil) rfl tk0)) SS.nil)
    (SS.cons (S1.fld (SE.var 0) (SE.callTy call_tuple_of tupleS (by rfl) T.b_tuple (by rfl) (SA.cons (SE.var 1) SA.nil)) T.cl_Box T.na_Box_table)
    (SS.one (S1.fld (SE.var 0) SE.int T.cl_Box T.na_Box_asked)))))
theorem ok__law_draws (T : Txt K mg c fa fd) : FnS c P w K mg base 1 (fa 12) (fd 12) ["_law_script", "_law_many"] m__law_draws := by
  have sc := sc__law_draws
  refine FnS.of T.f__law_draws.F sc fun cdv A outer s H E hr hgd => ?_
  have tk0 := takes_of (X := cxOf (L2.CX P w) P w K mg base ["_law_script", "_law_many", "_law_rests", "_law_cell", "_law_draws_here", "_law_k", "_law_at", "_law_mixed"] "_law_draws" (defScope s__law_draws) (fa 12) cdv A outer s H E) (E := E) rfl rfl rfl rfl
  have hp0 := passes_of (X := cxOf (L2.CX P w) P w K mg base ["_law_script", "_law_many", "_law_rests", "_law_cell", "_law_draws_here", "_law_k", "_law_at", "_law_mixed"] "_law_draws" (defScope s__law_draws) (fa 12) cdv A outer s H E) rfl
  exact (SS.cons (S1.setLc (own := [("_law_cell", 3)]) true rfl sc.nd rfl rfl (sw_true rfl rfl rfl rfl) (SI.seq (SE.var 0)) (by exact blkOk_by (N := ["_law_script", "_law_many", "_law_rests", "_law_cell", "_law_draws_here", "_law_k", "_law_at", "_law_mixed"]) (sc := defScope s__law_draws) (by decide +kernel)) (fun _ _ _ _ _ => (SGw.name sc.nd rfl (.inl rfl) (by decide))) (fun _ _ _ _ _ => STs.nil) (fun _ _ _ _ _ => (SE.callB call_abs absS (by rfl) T.b_abs (by rfl) (SA.cons (SE.callTy call_intAll intS (by rfl) T.b_int (by rfl) (SA.cons (SE.var 3) SA.nil)) SA.nil))))
    (SS.cons (S1.set sc.nd rfl (.inl rfl) (SE.lst true SA.nil))
    (SS.cons (S1.for hp0 rfl (SI.range1 (by rfl) T.b_range (SA.cons (SE.var 1) SA.nil)) (SG.name sc.nd rfl (.inl rfl)) (SS.cons (S1.set sc.nd rfl (.inl rfl) (SE.var 5))
    (SS.cons (S1.ite (ST.cmp op_gt gtS (SE.callB call_lenAll lenS (by rfl) T.b_len PySem.boot_len (SA.cons (SE.var 0) SA.nil)) SE.int (nomark _)) (SS.cons (S1.set sc.nd rfl (.inl rfl) (SE.op op_mod modS (SE.var 5) (SE.callB call_lenAll lenS (by rfl) T.b_len PySem.boot_len (SA.cons (SE.var 0) SA.nil))))
    (SS.cons (S1.set sc.nd rfl (.inl rfl) (SE.callTy call_intAll intS (by rfl) T.b_int (by rfl) (SA.cons (SE.ix (SE.var 0) (SE.var 6)) SA.nil)))
    (SS.one (S1.ite (SW.st (SW.and (ST.cmp op_ge geS (SE.var 3) (SE.op op_pow powS SE.int SE.int) (nomark _)) (SW.and1 (ST.cmp op_gt gtS (SE.ix (SE.var 2) (SE.var 6)) SE.int (nomark _))))) (SS.cons (S1.drop (SE.lm PySem.F.slot_list_append PySem.F.type_list_append mt_append appendS (SE.var 4) (SA.cons (SE.op op_mod modS (SE.callTy call_intAll intS (by rfl) T.b_int (by rfl) (SA.cons (SE.ix (SE.var 2) (SE.var 6)) SA.nil)) SE.int) SA.nil)))
    (SS.cons (S1.asg (SE.op op_div divS (SE.callTy call_intAll intS (by rfl) T.b_int (by rfl) (SA.cons (SE.ix (SE.var 2) (SE.var 6)) SA.nil)) SE.int) (SG.sub (W := WF E) (SE.var 2) (SE.var 6)))
    (SS.one S1.cnt))) SS.nil)))) SS.nil)
    (SS.cons (S1.set sc.nd rfl (.inl rfl) (SE.op op_mod modS (SE.callTy call_intAll intS (by rfl) T.b_int (by rfl) (SA.cons (SE.op op_addAll (addS false) (SE.op op_addAll (addS false) (SE.op op_mulAll (mulS false) (SE.var 3) SE.int) (SE.op op_mulAll (mulS false) (SE.var 5) SE.int)) SE.int) SA.nil)) SE.int))
    (SS.cons (S1.set sc.nd rfl (.inl rfl) (SE.op op_mod modS (SE.callTy call_intAll intS (by rfl) T.b_int (by rfl) (SA.cons (SE.op op_addAll (addS false) (SE.op op_div divS (SE.op op_mulAll (mulS false) (SE.var 7) (SE.var 7)) SE.int) (SE.var 7)) SA.nil)) SE.int))
    (SS.one (S1.drop (SE.lm PySem.F.slot_list_append PySem.F.type_list_append mt_append appendS (SE.var 4) (SA.cons (SE.op op_mod modS (SE.callTy call_intAll intS (by rfl) T.b_int (by rfl) (SA.cons (SE.op op_addAll (addS false) (SE.op op_div divS (SE.op op_mulAll (mulS false) (SE.var 7) (SE.var 7)) SE.int) (SE.op op_mulAll (mulS false) (SE.var 5) SE.int)) SA.nil)) SE.int) SA.nil)))))))))
    (SS.one (S1.ret (SE.frz (SE.var 4)))))))
theorem ok__law_number (T : Txt K mg c fa fd) : FnS c P w K mg base 2 (fa 14) (fd 14) ["_law_hand"] m__law_number := by
  have sc := sc__law_number
  refine FnS.of T.f__law_number.F sc fun cdv A outer s H E hr hgd => ?_
  have tk0 := takes_of (X := cxOf (L2.CX P w) P w K mg base ["_law_hand", "_law_kind"] "_law_number" (defScope s__law_number) (fa 14) cdv A outer s H E) (E := E) rfl rfl rfl rfl
  have hp0 := passes_of (X := cxOf (L2.CX P w) P w K mg base ["_law_hand", "_law_kind"] "_law_number" (defScope s__law_number) (fa 14) cdv A outer s H E) rfl
  exact (SS.cons (S1.set sc.nd rfl (.inl rfl) (SE.call (ok__law_take T) (hr.mono (by decide)) hgd (by rfl) T.f__law_take.m T.f__law_take.F.kp T.f__law_take.b tk0 (SA.cons (SE.var 0) (SA.cons SE.int SA.nil))))
    (SS.cons (S1.ite (ST.cmp op_lt ltS (SE.var 1) SE.int (nomark _)) (SS.one (S1.ret (SE.ix (SE.lst false (SA.cons (SE.call (ok__law_take T) (hr.mono (by decide)) hgd (by rfl) T.f__law_take.m T.f__law_take.F.kp T.f__law_take.b tk0 (SA.cons (SE.var 0) (SA.cons SE.int SA.nil))) (SA.cons (SE.call (ok__law_take T) (hr.mono (by decide)) hgd (by rfl) T.f__law_take.m T.f__law_take.F.kp T.f__law_take.b tk0 (SA.cons (SE.var 0) (SA.cons SE.int SA.nil))) (SA.cons (SE.call (ok__law_take T) (hr.mono (by decide)) hgd (by rfl) T.f__law_take.m T.f__law_take.F.kp T.f__law_take.b tk0 (SA.cons (SE.var 0) (SA.cons (SE.op op_pow powS SE.int SE.int) SA.nil))) SA.nil)))) (SE.var 1)))) SS.nil)
    (SS.one (S1.ret (SE.op op_addAll (addS false) (SE.op op_mulAll (mulS false) (SE.call (ok__law_take T) (hr.mono (by decide)) hgd (by rfl) T.f__law_take.m T.f__law_take.F.kp T.f__law_take.b tk0 (SA.cons (SE.var 0) (SA.cons (SE.op op_pow powS SE.int SE.int) SA.nil))) (SE.op op_pow powS SE.int SE.int)) (SE.call (ok__law_take T) (hr.mono (by decide)) hgd (by rfl) T.f__law_take.m T.f__law_take.F.kp T.f__law_take.b tk0 (SA.cons (SE.var 0) (SA.cons (SE.op op_pow powS SE.int SE.int) SA.nil))))))))
theorem ok_Box_ddlendd (T : Txt K mg c fa fd) : FnS c P w K mg base 1 (fa 11) (fd 11) ["self"] m_Box_ddlendd := by
  have sc := sc_Box_ddlendd
  refine FnS.of T.f_Box_ddlendd.F sc fun cdv A outer s H E hr hgd => ?_
  have tk0 := takes_of (X := cxOf (L2.CX P w) P w K mg base ["self"] "Box.__len__" (defScope s_Box_ddlendd) (fa 11) cdv A outer s H E) (E := E) rfl rfl rfl rfl
  have hp0 := passes_of (X := cxOf (L2.CX P w) P w K mg base ["self"] "Box.__len__" (defScope s_Box_ddlendd) (fa 11) cdv A outer s H E) rfl
  exact (SS.one (S1.ret (SE.callB call_lenAll lenS (by rfl) T.b_len PySem.boot_len (SA.cons (SE.fld (SE.var 0) T.cl_Box T.na_Box_table) SA.nil))))
theorem ok_Box_asks (T : Txt K mg c fa fd) : FnS c P w K mg base 1 (fa 10) (fd 10) ["self"] m_Box_asks := by
  have sc := sc_Box_asks
  refine FnS.of T.f_Box_asks.F sc fun cdv A outer s H E hr hgd => ?_
  have tk0 := takes_of (X := cxOf (L2.CX P w) P w K mg base ["self"] "Box.asks" (defScope s_Box_asks) (fa 10) cdv A outer s H E) (E := E) rfl rfl rfl rfl
  have hp0 := passes_of (X := cxOf (L2.CX P w) P w K mg base ["self"] "Box.asks" (defScope s_Box_asks) (fa 10) cdv A outer s H E) rfl
  exact (SS.one (S1.ret (SE.fld (SE.var 0) T.cl_Box T.na_Box_asked)))
theorem ok_is_below (T : Txt K mg c fa fd) : FnS c P w K mg base 2 (fa 7) (fd 7) ["value", "bound"] m_is_below := by
  have sc := sc_is_below
  refine FnS.of T.f_is_below.F sc fun cdv A outer s H E hr hgd => ?_
  have tk0 := takes_of (X := cxOf (L2.CX P w) P w K mg base ["value", "bound"] "is_below" (defScope s_is_below) (fa 7) cdv A outer s H E) (E := E) rfl rfl rfl rfl
  have hp0 := passes_of (X := cxOf (L2.CX P w) P w K mg base ["value", "bound"] "is_below" (defScope s_is_below) (fa 7) cdv A outer s H E) rfl
  exact (SS.one (S1.ret (SE.and (SE.call (ok_is_integer T) (hr.mono (by decide)) hgd (by rfl) T.f_is_integer.m T.f_is_integer.F.kp T.f_is_integer.b tk0 (SA.cons (SE.var 0) SA.nil)) (SE.one (SE.chain op_le op_lt leS ltS SE.int (SE.var 0) (SE.var 1))))))
theorem ok_InvalidNumber_init (T : Txt K mg c fa fd) : FnOk P w K mg base (L2.CX P w) 1 (fa 0) (fd 0) ["self", "value"] (spX1 (c 1) "value") := by
  refine T.x_InvalidNumber.F.okX sc_InvalidNumber_init (fun vs H Q E h => ?_) fun cdv A outer s H vs Q E hr h => ⟨_, pss_one (ps_ost (pv 0) (pv 1)), initX1 T.x_InvalidNumber.T T.n_InvalidNumber_value rfl h⟩
  obtain ⟨a, w, rfl, _⟩ := h
  rfl
theorem ok_Box_ask (T : Txt K mg c fa fd) : FnS c P w K mg base 3 (fa 9) (fd 9) ["self", "x"] m_Box_ask := by
  have sc := sc_Box_ask
  refine FnS.of T.f_Box_ask.F sc fun cdv A outer s H E hr hgd => ?_
  have tk0 := takes_of (X := cxOf (L2.CX P w) P w K mg base ["self", "x"] "Box.ask" (defScope s_Box_ask) (fa 9) cdv A outer s H E) (E := E) rfl rfl rfl rfl
  have hp0 := passes_of (X := cxOf (L2.CX P w) P w K mg base ["self", "x"] "Box.ask" (defScope s_Box_ask) (fa 9) cdv A outer s H E) rfl
  exact (SS.cons (S1.ite (ST.not (ST.val (SE.call (ok_is_below T) (hr.mono (by decide)) hgd (by rfl) T.f_is_below.m T.f_is_below.F.kp T.f_is_below.b tk0 (SA.cons (SE.var 1) (SA.cons (SE.callB call_lenAll lenS (by rfl) T.b_len PySem.boot_len (SA.cons (SE.fld (SE.var 0) T.cl_Box T.na_Box_table) SA.nil)) SA.nil))))) (SS.one (S1.raise1 T.x_InvalidNumber.T T.x_InvalidNumber.i T.x_InvalidNumber.t (ok_InvalidNumber_init T) (hr.mono (by decide)) T.x_InvalidNumber.b (passes_call tk0 fun _ _ _ _ z => z.elim) (by rfl) T.x_InvalidNumber.m (SA.cons (SE.var 1) SA.nil) rfl tk0)) SS.nil)
    (SS.cons (S1.fldAug (SE.var 0) SE.int T.cl_Box T.na_Box_asked)
    (SS.one (S1.ret (SE.ix (SE.fld (SE.var 0) T.cl_Box T.na_Box_table) (SE.var 1))))))
theorem ok_InvalidMap_init (T : Txt K mg c fa fd) : FnOk P w K mg base (L2.CX P w) 1 (fa 1) (fd 1) ["self", "value"] (spX1 (c 2) "value") := by
  refine T.x_InvalidMap.F.okX sc_InvalidMap_init (fun vs H Q E h => ?_) fun cdv A outer s H vs Q E hr h => ⟨_, pss_one (ps_ost (pv 0) (pv 1)), initX1 T.x_InvalidMap.T T.n_InvalidMap_value rfl h⟩
  obtain ⟨a, w, rfl, _⟩ := h
  rfl
theorem ok_InvalidSamples_init (T : Txt K mg c fa fd) : FnOk P w K mg base (L2.CX P w) 1 (fa 2) (fd 2) ["self", "value"] (spX1 (c 3) "value") := by
  refine T.x_InvalidSamples.F.okX sc_InvalidSamples_init (fun vs H Q E h => ?_) fun cdv A outer s H vs Q E hr h => ⟨_, pss_one (ps_ost (pv 0) (pv 1)), initX1 T.x_InvalidSamples.T T.n_InvalidSamples_value rfl h⟩
  obtain ⟨a, w, rfl, _⟩ := h
  rfl
theorem ok_TooMany_init (T : Txt K mg c fa fd) : FnOk P w K mg base (L2.CX P w) 1 (fa 4) (fd 4) ["self", "what"] (spX1 (c 5) "what") := by
  refine T.x_TooMany.F.okX sc_TooMany_init (fun vs H Q E h => ?_) fun cdv A outer s H vs Q E hr h => ⟨_, pss_one (ps_ost (pv 0) (pv 1)), initX1 T.x_TooMany.T T.n_TooMany_what rfl h⟩
  obtain ⟨a, w, rfl, _⟩ := h
  rfl
theorem ok__law_refusal (T : Txt K mg c fa fd) : FnS c P w K mg base 5 (fa 16) (fd 16) ["_law_box", "_law_x"] m__law_refusal := by
  have sc := sc__law_refusal
  refine FnS.of T.f__law_refusal.F sc fun cdv A outer s H E hr hgd => ?_
  have tk0 := takes_of (X := cxOf (L2.CX P w) P w K mg base ["_law_box", "_law_x", "e", "_law_found"] "_law_refusal" (defScope s__law_refusal) (fa 16) cdv A outer s H E) (E := E) rfl rfl rfl rfl
  have hp0 := passes_of (X := cxOf (L2.CX P w) P w K mg base ["_law_box", "_law_x", "e", "_law_found"] "_law_refusal" (defScope s__law_refusal) (fa 16) cdv A outer s H E) rfl
  exact (SS.cons (S1.tryAs T.ex rfl rfl sc.nd (i := 2) rfl rfl ⟨(by rfl), by decide, .inl T.c_NinthError⟩ tk0 T.sub_NinthError (fun W pn xe tk1 hp1 => (SS.one (S1.ite (ST.cmp op_isN isS (SE.var 0) SE.non (nomark _)) (SS.one (S1.drop (SE.make T.mk_Box (ok_Box_ddinitdd T) (hr.mono (by decide)) hgd (by rfl) T.c_Box T.f_Box_ddinitdd.b tk1 (SA.cons (SE.var 1) SA.nil)))) (SS.one (S1.drop (SE.meth (SE.var 0) T.cl_Box T.me_Box_ask (ok_Box_ask T) (hr.mono (by decide)) hgd T.f_Box_ask.b tk1 (SA.cons (SE.var 1) SA.nil))))))) (fun a dd e oe pn hz hf => (SS.cons (S1.set sc.nd rfl (.inl rfl) (SE.lst true SA.nil))
    (SS.cons (S1.ite (ST.val (SE.isx 2 T.xtab hz hf (by rfl) T.b_isinstance (ht_glob (by rfl) T.c_InvalidNumber))) (SS.one (S1.drop (SE.lm PySem.F.slot_list_append PySem.F.type_list_append mt_append appendS (SE.var 3) (SA.cons (SE.tup (SA.cons SE.str (SA.cons (SE.callB (call_reprD hgd hr.units) reprS (by rfl) T.b_repr (by rfl) (SA.cons (SE.xf 2 T.xf_value hz hf) SA.nil)) SA.nil))) SA.nil)))) SS.nil)
    (SS.cons (S1.ite (ST.val (SE.isx 2 T.xtab hz hf (by rfl) T.b_isinstance (ht_glob (by rfl) T.c_InvalidTable))) (SS.one (S1.drop (SE.lm PySem.F.slot_list_append PySem.F.type_list_append mt_append appendS (SE.var 3) (SA.cons (SE.tup (SA.cons SE.str (SA.cons (SE.callB (call_reprD hgd hr.units) reprS (by rfl) T.b_repr (by rfl) (SA.cons (SE.xf 2 T.xf_value hz hf) SA.nil)) SA.nil))) SA.nil)))) SS.nil)
    (SS.cons (S1.ite (ST.val (SE.isx 2 T.xtab hz hf (by rfl) T.b_isinstance (ht_glob (by rfl) T.c_InvalidMap))) (SS.one (S1.drop (SE.lm PySem.F.slot_list_append PySem.F.type_list_append mt_append appendS (SE.var 3) (SA.cons (SE.tup (SA.cons SE.str (SA.cons (SE.callB (call_reprD hgd hr.units) reprS (by rfl) T.b_repr (by rfl) (SA.cons (SE.xf 2 T.xf_value hz hf) SA.nil)) SA.nil))) SA.nil)))) SS.nil)
    (SS.cons (S1.ite (ST.val (SE.isx 2 T.xtab hz hf (by rfl) T.b_isinstance (ht_glob (by rfl) T.c_InvalidSamples))) (SS.one (S1.drop (SE.lm PySem.F.slot_list_append PySem.F.type_list_append mt_append appendS (SE.var 3) (SA.cons (SE.tup (SA.cons SE.str (SA.cons (SE.callB (call_reprD hgd hr.units) reprS (by rfl) T.b_repr (by rfl) (SA.cons (SE.xf 2 T.xf_value hz hf) SA.nil)) SA.nil))) SA.nil)))) SS.nil)
    (SS.cons (S1.ite (ST.val (SE.isx 2 T.xtab hz hf (by rfl) T.b_isinstance (ht_glob (by rfl) T.c_TooMany))) (SS.one (S1.drop (SE.lm PySem.F.slot_list_append PySem.F.type_list_append mt_append appendS (SE.var 3) (SA.cons (SE.tup (SA.cons SE.str (SA.cons (SE.callB (call_reprD hgd hr.units) reprS (by rfl) T.b_repr (by rfl) (SA.cons (SE.xf 2 T.xf_what hz hf) SA.nil)) SA.nil))) SA.nil)))) SS.nil)
    (SS.cons (S1.ite (ST.not (ST.val (SE.isx 2 T.xtab hz hf (by rfl) T.b_isinstance (ht_bty (by rfl) T.b_ValueError (by rfl))))) (SS.one (S1.drop (SE.lm PySem.F.slot_list_append PySem.F.type_list_append mt_append appendS (SE.var 3) (SA.cons (SE.tup (SA.cons SE.str (SA.cons SE.str SA.nil))) SA.nil)))) SS.nil)
    (SS.one (S1.ret (SE.frz (SE.var 3)))))))))))))
    (SS.one (S1.ret (SE.lst false SA.nil))))
theorem ok__law_refused (T : Txt K mg c fa fd) : FnS c P w K mg base 6 (fa 15) (fd 15) ["_law_value"] m__law_refused := by
  have sc := sc__law_refused
  refine FnS.of T.f__law_refused.F sc fun cdv A outer s H E hr hgd => ?_
  have tk0 := takes_of (X := cxOf (L2.CX P w) P w K mg base ["_law_value"] "_law_refused" (defScope s__law_refused) (fa 15) cdv A outer s H E) (E := E) rfl rfl rfl rfl
  have hp0 := passes_of (X := cxOf (L2.CX P w) P w K mg base ["_law_value"] "_law_refused" (defScope s__law_refused) (fa 15) cdv A outer s H E) rfl
  exact (SS.one (S1.ret (SE.cmp (op_eqAll hr.units) eqS (SE.call (ok__law_refusal T) (hr.mono (by decide)) hgd (by rfl) T.f__law_refusal.m T.f__law_refusal.F.kp T.f__law_refusal.b tk0 (SA.cons SE.non (SA.cons (SE.var 0) SA.nil))) (SE.lst false (SA.cons (SE.tup (SA.cons SE.str (SA.cons (SE.callB (call_reprD hgd hr.units) reprS (by rfl) T.b_repr (by rfl) (SA.cons (SE.var 0) SA.nil)) SA.nil))) SA.nil)) (nomark _))))
theorem ok_law (T : Txt K mg c fa fd) : FnS c P w K mg base 7 (fa 17) (fd 17) ["_law_script"] m_law := by
  have sc := sc_law
  refine FnS.of T.f_law.F sc fun cdv A outer s H E hr hgd => ?_
  have tk0 := takes_of (X := cxOf (L2.CX P w) P w K mg base ["_law_script", "_law_hand", "_law_many", "_law_base", "_law_k", "_law_step", "_law_row", "_law_handed", "_law_box", "_law_other", "_law_asked", "_law_t", "_law_x", "_law_wrong", "_law_at", "_law_short", "_law_bad"] "law" (defScope s_law) (fa 17) cdv A outer s H E) (E := E) rfl rfl rfl rfl
  have hp0 := passes_of (X := cxOf (L2.CX P w) P w K mg base ["_law_script", "_law_hand", "_law_many", "_law_base", "_law_k", "_law_step", "_law_row", "_law_handed", "_law_box", "_law_other", "_law_asked", "_law_t", "_law_x", "_law_wrong", "_law_at", "_law_short", "_law_bad"] "law" (defScope s_law) (fa 17) cdv A outer s H E) rfl
  exact (SS.cons (S1.set sc.nd rfl (.inr rfl) (SE.lst true (SA.cons (SE.call (ok__law_draws T) (hr.mono (by decide)) hgd (by rfl) T.f__law_draws.m T.f__law_draws.F.kp T.f__law_draws.b tk0 (SA.cons (SE.var 0) (SA.cons SE.int SA.nil))) (SA.cons SE.int SA.nil))))
    (SS.cons (S1.set sc.nd rfl (.inl rfl) (SE.ix (SE.lst false (SA.cons SE.int (SA.cons SE.int (SA.cons SE.int (SA.cons SE.int (SA.cons (SE.op op_addAll (addS false) SE.int (SE.call (ok__law_take T) (hr.mono (by decide)) hgd (by rfl) T.f__law_take.m T.f__law_take.F.kp T.f__law_take.b tk0 (SA.cons (SE.var 1) (SA.cons SE.int SA.nil)))) (SA.cons (SE.op op_addAll (addS false) SE.int (SE.call (ok__law_take T) (hr.mono (by decide)) hgd (by rfl) T.f__law_take.m T.f__law_take.F.kp T.f__law_take.b tk0 (SA.cons (SE.var 1) (SA.cons SE.int SA.nil)))) SA.nil))))))) (SE.call (ok__law_take T) (hr.mono (by decide)) hgd (by rfl) T.f__law_take.m T.f__law_take.F.kp T.f__law_take.b tk0 (SA.cons (SE.var 1) (SA.cons SE.int SA.nil)))))
    (SS.cons (S1.set sc.nd rfl (.inr rfl) (SE.lc (own := [("_law_k", 4)]) false rfl sc.nd (SI.range1 (by rfl) T.b_range (SA.cons SE.int SA.nil)) (by exact blkOk_by (N := ["_law_script", "_law_hand", "_law_many", "_law_base", "_law_k", "_law_step", "_law_row", "_law_handed", "_law_box", "_law_other", "_law_asked", "_law_t", "_law_x", "_law_wrong", "_law_at", "_law_short", "_law_bad"]) (sc := defScope s_law) (by decide +kernel)) (fun _ _ _ _ _ => (SGw.name sc.nd rfl (.inl rfl) (by decide))) (fun _ _ _ _ _ => STs.nil) (fun _ _ _ _ _ => (SE.call (ok__law_number T) (hr.mono (by decide)) hgd (by rfl) T.f__law_number.m T.f__law_number.F.kp T.f__law_number.b takes0 (SA.cons (SE.var 1) SA.nil)))))
    (SS.cons (S1.set sc.nd rfl (.inr rfl) (SE.call (ok__law_take T) (hr.mono (by decide)) hgd (by rfl) T.f__law_take.m T.f__law_take.F.kp T.f__law_take.b tk0 (SA.cons (SE.var 1) (SA.cons SE.int SA.nil))))
    (SS.cons (S1.setLc (own := [("_law_k", 4)]) false rfl sc.nd rfl rfl (sw_true rfl rfl rfl rfl) (SI.range1 (by rfl) T.b_range (SA.cons (SE.var 2) SA.nil)) (by exact blkOk_by (N := ["_law_script", "_law_hand", "_law_many", "_law_base", "_law_k", "_law_step", "_law_row", "_law_handed", "_law_box", "_law_other", "_law_asked", "_law_t", "_law_x", "_law_wrong", "_law_at", "_law_short", "_law_bad"]) (sc := defScope s_law) (by decide +kernel)) (fun _ _ _ _ _ => (SGw.name sc.nd rfl (.inl rfl) (by decide))) (fun _ _ _ _ _ => STs.nil) (fun _ _ _ _ _ => (SE.op op_addAll (addS false) (SE.ix (SE.var 3) (SE.op op_mod modS (SE.callTy call_intAll intS (by rfl) T.b_int (by rfl) (SA.cons (SE.var 4) SA.nil)) SE.int)) (SE.op op_mulAll (mulS false) (SE.op op_div divS (SE.var 4) SE.int) (SE.var 5)))))
    (SS.cons (S1.set sc.nd rfl (.inl rfl) (SE.callTy call_list_of (listS true) (by rfl) T.b_list (by rfl) (SA.cons (SE.var 6) SA.nil)))
    (SS.cons (S1.set sc.nd rfl (.inl rfl) (SE.make T.mk_Box (ok_Box_ddinitdd T) (hr.mono (by decide)) hgd (by rfl) T.c_Box T.f_Box_ddinitdd.b tk0 (SA.cons (SE.ix (SE.lst false (SA.cons (SE.var 7) (SA.cons (SE.callTy call_tuple_of tupleS (by rfl) T.b_tuple (by rfl) (SA.cons (SE.var 7) SA.nil)) SA.nil))) (SE.call (ok__law_take T) (hr.mono (by decide)) hgd (by rfl) T.f__law_take.m T.f__law_take.F.kp T.f__law_take.b tk0 (SA.cons (SE.var 1) (SA.cons SE.int SA.nil)))) SA.nil)))
    (SS.cons (S1.set sc.nd rfl (.inl rfl) (SE.make T.mk_Box (ok_Box_ddinitdd T) (hr.mono (by decide)) hgd (by rfl) T.c_Box T.f_Box_ddinitdd.b tk0 (SA.cons (SE.var 6) SA.nil)))
    (SS.cons (S1.drop (SE.lm PySem.F.slot_list_append PySem.F.type_list_append mt_append appendS (SE.var 7) (SA.cons SE.int SA.nil)))
    (SS.cons (S1.asg (SE.op op_addAll (addS false) (SE.ix (SE.var 7) SE.int) SE.int) (SG.sub (W := WF E) (SE.var 7) SE.int))
    (SS.cons (S1.ite (SW.st (SW.or (ST.cmp (op_neAll hr.units) neS (SE.callB (call_reprD hgd hr.units) reprS (by rfl) T.b_repr (by rfl) (SA.cons (SE.fld (SE.var 8) T.cl_Box T.na_Box_table) SA.nil)) (SE.callB (call_reprD hgd hr.units) reprS (by rfl) T.b_repr (by rfl) (SA.cons (SE.callTy call_tuple_of tupleS (by rfl) T.b_tuple (by rfl) (SA.cons (SE.var 6) SA.nil)) SA.nil)) (nomark _)) (SW.or (ST.cmp (op_neAll hr.units) neS (SE.callB (call_reprD hgd hr.units) reprS (by rfl) T.b_repr (by rfl) (SA.cons (SE.callB (call_lenOwn T.me_Box___len__ (ok_Box_ddlendd T).ok (hr.mono (by decide)) hgd T.f_Box_ddlendd.b) (lenOwnS (Cn := 6) (ok_Box_ddlendd T)) (by rfl) T.b_len PySem.boot_len (SA.cons (SE.var 8) SA.nil)) SA.nil)) (SE.callB (call_reprD hgd hr.units) reprS (by rfl) T.b_repr (by rfl) (SA.cons (SE.var 2) SA.nil)) (nomark _)) (SW.or1 (ST.cmp (op_neAll hr.units) neS (SE.callB (call_reprD hgd hr.units) reprS (by rfl) T.b_repr (by rfl) (SA.cons (SE.prop (SE.var 8) T.cl_Box T.pr_Box_asks (ok_Box_asks T) (hr.mono (by decide)) hgd T.f_Box_asks.b) SA.nil)) SE.str (nomark _)))))) (SS.one (S1.ret SE.bl)) SS.nil)
    (SS.cons (S1.set sc.nd rfl (.inl rfl) SE.int)
    (SS.cons (S1.for hp0 rfl (SI.range1 (by rfl) T.b_range (SA.cons SE.int SA.nil)) (SG.name sc.nd rfl (.inl rfl)) (SS.cons (S1.set sc.nd rfl (.inl rfl) (SE.call (ok__law_take T) (hr.mono (by decide)) hgd (by rfl) T.f__law_take.m T.f__law_take.F.kp T.f__law_take.b tk0 (SA.cons (SE.var 1) (SA.cons (SE.var 2) SA.nil))))
    (SS.cons (S1.ite (ST.cmp (op_eqAll hr.units) eqS (SE.call (ok__law_take T) (hr.mono (by decide)) hgd (by rfl) T.f__law_take.m T.f__law_take.F.kp T.f__law_take.b tk0 (SA.cons (SE.var 1) (SA.cons SE.int SA.nil))) SE.int (nomark _)) (SS.cons (S1.set sc.nd rfl (.inl rfl) (SE.ix (SE.lst false (SA.cons (SE.var 2) (SA.cons (SE.un un_neg negS SE.int) (SA.cons SE.bl (SA.cons SE.bl (SA.cons SE.non (SA.cons SE.str (SA.cons (SE.tup (SA.cons SE.int SA.nil)) (SA.cons (SE.lst false (SA.cons SE.int SA.nil)) (SA.cons (SE.op op_addAll (addS false) (SE.var 2) (SE.var 12)) (SA.cons (SE.op op_pow powS SE.int SE.int) SA.nil))))))))))) (SE.call (ok__law_take T) (hr.mono (by decide)) hgd (by rfl) T.f__law_take.m T.f__law_take.F.kp T.f__law_take.b tk0 (SA.cons (SE.var 1) (SA.cons SE.int SA.nil)))))
    (SS.one (S1.ite (ST.cmp (op_neAll hr.units) neS (SE.call (ok__law_refusal T) (hr.mono (by decide)) hgd (by rfl) T.f__law_refusal.m T.f__law_refusal.F.kp T.f__law_refusal.b tk0 (SA.cons (SE.var 8) (SA.cons (SE.var 13) SA.nil))) (SE.lst false (SA.cons (SE.tup (SA.cons SE.str (SA.cons (SE.callB (call_reprD hgd hr.units) reprS (by rfl) T.b_repr (by rfl) (SA.cons (SE.var 13) SA.nil)) SA.nil))) SA.nil)) (nomark _)) (SS.one (S1.ret SE.bl)) SS.nil))) (SS.cons (S1.ite (ST.cmp (op_neAll hr.units) neS (SE.callB (call_reprD hgd hr.units) reprS (by rfl) T.b_repr (by rfl) (SA.cons (SE.meth (SE.var 8) T.cl_Box T.me_Box_ask (ok_Box_ask T) (hr.mono (by decide)) hgd T.f_Box_ask.b tk0 (SA.cons (SE.var 12) SA.nil)) SA.nil)) (SE.callB (call_reprD hgd hr.units) reprS (by rfl) T.b_repr (by rfl) (SA.cons (SE.ix (SE.var 6) (SE.var 12)) SA.nil)) (nomark _)) (SS.one (S1.ret SE.bl)) SS.nil)
    (SS.one (S1.set sc.nd rfl (.inl rfl) (SE.op op_addAll (addS false) (SE.var 10) SE.int)))))
    (SS.one (S1.ite (ST.cmp (op_neAll hr.units) neS (SE.callB (call_reprD hgd hr.units) reprS (by rfl) T.b_repr (by rfl) (SA.cons (SE.prop (SE.var 8) T.cl_Box T.pr_Box_asks (ok_Box_asks T) (hr.mono (by decide)) hgd T.f_Box_asks.b) SA.nil)) (SE.callB (call_reprD hgd hr.units) reprS (by rfl) T.b_repr (by rfl) (SA.cons (SE.var 10) SA.nil)) (nomark _)) (SS.one (S1.ret SE.bl)) SS.nil)))))
    (SS.cons (S1.ite (SW.st (SW.or (ST.cmp (op_neAll hr.units) neS (SE.callB (call_reprD hgd hr.units) reprS (by rfl) T.b_repr (by rfl) (SA.cons (SE.prop (SE.var 9) T.cl_Box T.pr_Box_asks (ok_Box_asks T) (hr.mono (by decide)) hgd T.f_Box_asks.b) SA.nil)) SE.str (nomark _)) (SW.or (ST.cmp (op_neAll hr.units) neS (SE.callB (call_reprD hgd hr.units) reprS (by rfl) T.b_repr (by rfl) (SA.cons (SE.meth (SE.var 9) T.cl_Box T.me_Box_ask (ok_Box_ask T) (hr.mono (by decide)) hgd T.f_Box_ask.b tk0 (SA.cons (SE.op op_sub subS (SE.var 2) SE.int) SA.nil)) SA.nil)) (SE.callB (call_reprD hgd hr.units) reprS (by rfl) T.b_repr (by rfl) (SA.cons (SE.ix (SE.var 6) (SE.un un_neg negS SE.int)) SA.nil)) (nomark _)) (SW.or1 (ST.cmp (op_neAll hr.units) neS (SE.callB (call_reprD hgd hr.units) reprS (by rfl) T.b_repr (by rfl) (SA.cons (SE.prop (SE.var 9) T.cl_Box T.pr_Box_asks (ok_Box_asks T) (hr.mono (by decide)) hgd T.f_Box_asks.b) SA.nil)) SE.str (nomark _)))))) (SS.one (S1.ret SE.bl)) SS.nil)
    (SS.cons (S1.set sc.nd rfl (.inl rfl) (SE.call (ok__law_take T) (hr.mono (by decide)) hgd (by rfl) T.f__law_take.m T.f__law_take.F.kp T.f__law_take.b tk0 (SA.cons (SE.var 1) (SA.cons (SE.callB (call_minAll rfl) minS (by rfl) T.b_min (by rfl) (SA.cons (SE.var 2) (SA.cons SE.int SA.nil))) SA.nil))))
    (SS.cons (S1.set sc.nd rfl (.inl rfl) (SE.sl false (SE.var 6) SO.none (SO.some SE.int)))
    (SS.cons (S1.for hp0 rfl (SI.seq (SE.lst false (SA.cons (SE.un un_neg negS SE.int) (SA.cons SE.bl (SA.cons SE.bl (SA.cons SE.non (SA.cons SE.str (SA.cons (SE.tup (SA.cons SE.int SA.nil)) (SA.cons (SE.lst false (SA.cons SE.int SA.nil)) SA.nil))))))))) (SG.name sc.nd rfl (.inl rfl)) (SS.one (S1.ite (ST.not (ST.val (SE.call (ok__law_refused T) (hr.mono (by decide)) hgd (by rfl) T.f__law_refused.m T.f__law_refused.F.kp T.f__law_refused.b tk0 (SA.cons (SE.op op_addAll (addS false) (SE.op op_addAll (addS false) (SE.sl false (SE.var 15) SO.none (SO.some (SE.var 14))) (SE.lst false (SA.cons (SE.var 16) SA.nil))) (SE.sl false (SE.var 15) (SO.some (SE.op op_addAll (addS false) (SE.var 14) SE.int)) SO.none)) SA.nil)))) (SS.one (S1.ret SE.bl)) SS.nil)))
    (SS.cons (S1.for hp0 rfl (SI.seq (SE.lst false (SA.cons (SE.lst false SA.nil) (SA.cons (SE.tup SA.nil) (SA.cons SE.non (SA.cons SE.int (SA.cons SE.str (SA.cons SE.bl (SA.cons (SE.op op_mulAll (mulS false) (SE.lst false (SA.cons SE.int SA.nil)) SE.int) (SA.cons (SE.op op_mulAll (mulS false) (SE.tup (SA.cons SE.int SA.nil)) SE.int) SA.nil)))))))))) (SG.name sc.nd rfl (.inl rfl)) (SS.one (S1.ite (ST.not (ST.val (SE.call (ok__law_refused T) (hr.mono (by decide)) hgd (by rfl) T.f__law_refused.m T.f__law_refused.F.kp T.f__law_refused.b tk0 (SA.cons (SE.var 16) SA.nil)))) (SS.one (S1.ret SE.bl)) SS.nil)))
    (SS.one (S1.ret (SE.and (SE.cmp (op_eqAll hr.units) eqS (SE.callB (call_reprD hgd hr.units) reprS (by rfl) T.b_repr (by rfl) (SA.cons (SE.prop (SE.var 8) T.cl_Box T.pr_Box_asks (ok_Box_asks T) (hr.mono (by decide)) hgd T.f_Box_asks.b) SA.nil)) (SE.callB (call_reprD hgd hr.units) reprS (by rfl) T.b_repr (by rfl) (SA.cons (SE.var 10) SA.nil)) (nomark _)) (SE.one (SE.cmp (op_eqAll hr.units) eqS (SE.callB (call_reprD hgd hr.units) reprS (by rfl) T.b_repr (by rfl) (SA.cons (SE.fld (SE.var 8) T.cl_Box T.na_Box_table) SA.nil)) (SE.callB (call_reprD hgd hr.units) reprS (by rfl) T.b_repr (by rfl) (SA.cons (SE.callTy call_tuple_of tupleS (by rfl) T.b_tuple (by rfl) (SA.cons (SE.var 6) SA.nil)) SA.nil)) (nomark _))))))))))))))))))))))))
end
theorem all_mk {w : World} {K : PySem.W.Frag} {h : Heap} {mg : Str → Option Value} {fl : Addr} (X : K.In h) (G : h.Ns mainGlobals mg) (hfl : mg "law" = some (.ref fl))
    {C0 : Addr}
    {C1 : Addr}
    {C2 : Addr}
    {C3 : Addr}
    {C4 : Addr}
    {C5 : Addr}
    {C6 : Addr}
    {a13 : Addr} {od13 an13 : Option Addr} {sl13 : Array (Option Value)} {oc13 kV13 dc13 pm13 cd13 ct13 : Value}
    {a3 : Addr} {od3 an3 : Option Addr} {sl3 : Array (Option Value)} {oc3 kV3 dc3 pm3 cd3 ct3 : Value}
    {a5 : Addr} {od5 an5 : Option Addr} {sl5 : Array (Option Value)} {oc5 kV5 dc5 pm5 cd5 ct5 : Value}
    {a6 : Addr} {od6 an6 : Option Addr} {sl6 : Array (Option Value)} {oc6 kV6 dc6 pm6 cd6 ct6 : Value}
    {a8 : Addr} {od8 an8 : Option Addr} {sl8 : Array (Option Value)} {oc8 kV8 dc8 pm8 cd8 ct8 : Value}
    {a12 : Addr} {od12 an12 : Option Addr} {sl12 : Array (Option Value)} {oc12 kV12 dc12 pm12 cd12 ct12 : Value}
    {a14 : Addr} {od14 an14 : Option Addr} {sl14 : Array (Option Value)} {oc14 kV14 dc14 pm14 cd14 ct14 : Value}
    {a11 : Addr} {od11 an11 : Option Addr} {sl11 : Array (Option Value)} {oc11 kV11 dc11 pm11 cd11 ct11 : Value}
    {a10 : Addr} {od10 an10 : Option Addr} {sl10 : Array (Option Value)} {oc10 kV10 dc10 pm10 cd10 ct10 : Value}
    {a7 : Addr} {od7 an7 : Option Addr} {sl7 : Array (Option Value)} {oc7 kV7 dc7 pm7 cd7 ct7 : Value}
    {a0 : Addr} {od0 an0 : Option Addr} {sl0 : Array (Option Value)} {oc0 kV0 dc0 pm0 cd0 ct0 : Value}
    {a9 : Addr} {od9 an9 : Option Addr} {sl9 : Array (Option Value)} {oc9 kV9 dc9 pm9 cd9 ct9 : Value}
    {a1 : Addr} {od1 an1 : Option Addr} {sl1 : Array (Option Value)} {oc1 kV1 dc1 pm1 cd1 ct1 : Value}
    {a2 : Addr} {od2 an2 : Option Addr} {sl2 : Array (Option Value)} {oc2 kV2 dc2 pm2 cd2 ct2 : Value}
    {a4 : Addr} {od4 an4 : Option Addr} {sl4 : Array (Option Value)} {oc4 kV4 dc4 pm4 cd4 ct4 : Value}
    {a16 : Addr} {od16 an16 : Option Addr} {sl16 : Array (Option Value)} {oc16 kV16 dc16 pm16 cd16 ct16 : Value}
    {a15 : Addr} {od15 an15 : Option Addr} {sl15 : Array (Option Value)} {oc15 kV15 dc15 pm15 cd15 ct15 : Value}
    {a17 : Addr} {od17 an17 : Option Addr} {sl17 : Array (Option Value)} {oc17 kV17 dc17 pm17 cd17 ct17 : Value}
    {t_MOST_PLACES : Tok}
    {pp6_asks : Addr} {pq6_asks : List Value}
    {nm4 q4 : Str} {N4 : Addr} {bs4 : List Value} {sn4 : List Str} {sub4 bm4 : List Value} {ab4 : Bool} {col4 : Option Bool} {dd4 : Option Addr} {m0_4 m1_4 m2_4 m3_4 m5_4 : Option Value}
    {nm1 q1 : Str} {N1 : Addr} {bs1 : List Value} {sn1 : List Str} {sub1 bm1 : List Value} {ab1 : Bool} {col1 : Option Bool} {dd1 : Option Addr} {m0_1 m1_1 m2_1 m3_1 m5_1 : Option Value}
    {nm2 q2 : Str} {N2 : Addr} {bs2 : List Value} {sn2 : List Str} {sub2 bm2 : List Value} {ab2 : Bool} {col2 : Option Bool} {dd2 : Option Addr} {m0_2 m1_2 m2_2 m3_2 m5_2 : Option Value}
    {nm3 q3 : Str} {N3 : Addr} {bs3 : List Value} {sn3 : List Str} {sub3 bm3 : List Value} {ab3 : Bool} {col3 : Option Bool} {dd3 : Option Addr} {m0_3 m1_3 m2_3 m3_3 m5_3 : Option Value}
    {nm5 q5 : Str} {N5 : Addr} {bs5 : List Value} {sn5 : List Str} {sub5 bm5 : List Value} {ab5 : Bool} {col5 : Option Bool} {dd5 : Option Addr} {m0_5 m1_5 m2_5 m3_5 m5_5 : Option Value}
    
    
    (y0a : PySem.W.nsIn K mainGlobals "NinthError" = some (some (.ref C0)))
    (y6a : PySem.W.nsIn K mainGlobals "Box" = some (some (.ref C6)))
    (f13a : PySem.W.nsIn K mainGlobals "_law_take" = some (some (.ref a13)))
    (f13l : K.lookup a13 = some ⟨oc13, od13, .func (PySem.W.fnOf "_law_take" "_law_take" (defArgs s__law_take) (defBody s__law_take) (defScope s__law_take) .none kV13 dc13 pm13 an13 cd13 ct13), sl13⟩)
    (f13c : PySem.W.codeIn K cd13 "_law_take" = true)
    (f13k : PySem.W.keepIn K (.ref a13) = true)
    (f3l : K.lookup a3 = some ⟨oc3, od3, .func (PySem.W.fnOf "__init__" "InvalidTable.__init__" (defArgs s_InvalidTable_init) (defBody s_InvalidTable_init) (defScope s_InvalidTable_init) .none kV3 dc3 pm3 an3 cd3 ct3), sl3⟩)
    (f3c : PySem.W.codeIn K cd3 "InvalidTable.__init__" = true)
    (f3k : PySem.W.keepIn K (.ref a3) = true)
    (f5a : PySem.W.nsIn K mainGlobals "is_integer" = some (some (.ref a5)))
    (f5l : K.lookup a5 = some ⟨oc5, od5, .func (PySem.W.fnOf "is_integer" "is_integer" (defArgs s_is_integer) (defBody s_is_integer) (defScope s_is_integer) .none kV5 dc5 pm5 an5 cd5 ct5), sl5⟩)
    (f5c : PySem.W.codeIn K cd5 "is_integer" = true)
    (f5k : PySem.W.keepIn K (.ref a5) = true)
    (f6a : PySem.W.nsIn K mainGlobals "is_number" = some (some (.ref a6)))
    (f6l : K.lookup a6 = some ⟨oc6, od6, .func (PySem.W.fnOf "is_number" "is_number" (defArgs s_is_number) (defBody s_is_number) (defScope s_is_number) .none kV6 dc6 pm6 an6 cd6 ct6), sl6⟩)
    (f6c : PySem.W.codeIn K cd6 "is_number" = true)
    (f6k : PySem.W.keepIn K (.ref a6) = true)
    (f8l : K.lookup a8 = some ⟨oc8, od8, .func (PySem.W.fnOf "__init__" "Box.__init__" (defArgs s_Box_ddinitdd) (defBody s_Box_ddinitdd) (defScope s_Box_ddinitdd) .none kV8 dc8 pm8 an8 cd8 ct8), sl8⟩)
    (f8c : PySem.W.codeIn K cd8 "Box.__init__" = true)
    (f8k : PySem.W.keepIn K (.ref a8) = true)
    (f12a : PySem.W.nsIn K mainGlobals "_law_draws" = some (some (.ref a12)))
    (f12l : K.lookup a12 = some ⟨oc12, od12, .func (PySem.W.fnOf "_law_draws" "_law_draws" (defArgs s__law_draws) (defBody s__law_draws) (defScope s__law_draws) .none kV12 dc12 pm12 an12 cd12 ct12), sl12⟩)
    (f12c : PySem.W.codeIn K cd12 "_law_draws" = true)
    (f12k : PySem.W.keepIn K (.ref a12) = true)
    (f14a : PySem.W.nsIn K mainGlobals "_law_number" = some (some (.ref a14)))
    (f14l : K.lookup a14 = some ⟨oc14, od14, .func (PySem.W.fnOf "_law_number" "_law_number" (defArgs s__law_number) (defBody s__law_number) (defScope s__law_number) .none kV14 dc14 pm14 an14 cd14 ct14), sl14⟩)
    (f14c : PySem.W.codeIn K cd14 "_law_number" = true)
    (f14k : PySem.W.keepIn K (.ref a14) = true)
    (f11l : K.lookup a11 = some ⟨oc11, od11, .func (PySem.W.fnOf "__len__" "Box.__len__" (defArgs s_Box_ddlendd) (defBody s_Box_ddlendd) (defScope s_Box_ddlendd) .none kV11 dc11 pm11 an11 cd11 ct11), sl11⟩)
    (f11c : PySem.W.codeIn K cd11 "Box.__len__" = true)
    (f11k : PySem.W.keepIn K (.ref a11) = true)
    (f10l : K.lookup a10 = some ⟨oc10, od10, .func (PySem.W.fnOf "asks" "Box.asks" (defArgs s_Box_asks) (defBody s_Box_asks) (defScope s_Box_asks) .none kV10 dc10 pm10 an10 cd10 ct10), sl10⟩)
    (f10c : PySem.W.codeIn K cd10 "Box.asks" = true)
    (f10k : PySem.W.keepIn K (.ref a10) = true)
    (f7a : PySem.W.nsIn K mainGlobals "is_below" = some (some (.ref a7)))
    (f7l : K.lookup a7 = some ⟨oc7, od7, .func (PySem.W.fnOf "is_below" "is_below" (defArgs s_is_below) (defBody s_is_below) (defScope s_is_below) .none kV7 dc7 pm7 an7 cd7 ct7), sl7⟩)
    (f7c : PySem.W.codeIn K cd7 "is_below" = true)
    (f7k : PySem.W.keepIn K (.ref a7) = true)
    (f0l : K.lookup a0 = some ⟨oc0, od0, .func (PySem.W.fnOf "__init__" "InvalidNumber.__init__" (defArgs s_InvalidNumber_init) (defBody s_InvalidNumber_init) (defScope s_InvalidNumber_init) .none kV0 dc0 pm0 an0 cd0 ct0), sl0⟩)
    (f0c : PySem.W.codeIn K cd0 "InvalidNumber.__init__" = true)
    (f0k : PySem.W.keepIn K (.ref a0) = true)
    (f9l : K.lookup a9 = some ⟨oc9, od9, .func (PySem.W.fnOf "ask" "Box.ask" (defArgs s_Box_ask) (defBody s_Box_ask) (defScope s_Box_ask) .none kV9 dc9 pm9 an9 cd9 ct9), sl9⟩)
    (f9c : PySem.W.codeIn K cd9 "Box.ask" = true)
    (f9k : PySem.W.keepIn K (.ref a9) = true)
    (f1l : K.lookup a1 = some ⟨oc1, od1, .func (PySem.W.fnOf "__init__" "InvalidMap.__init__" (defArgs s_InvalidMap_init) (defBody s_InvalidMap_init) (defScope s_InvalidMap_init) .none kV1 dc1 pm1 an1 cd1 ct1), sl1⟩)
    (f1c : PySem.W.codeIn K cd1 "InvalidMap.__init__" = true)
    (f1k : PySem.W.keepIn K (.ref a1) = true)
    (f2l : K.lookup a2 = some ⟨oc2, od2, .func (PySem.W.fnOf "__init__" "InvalidSamples.__init__" (defArgs s_InvalidSamples_init) (defBody s_InvalidSamples_init) (defScope s_InvalidSamples_init) .none kV2 dc2 pm2 an2 cd2 ct2), sl2⟩)
    (f2c : PySem.W.codeIn K cd2 "InvalidSamples.__init__" = true)
    (f2k : PySem.W.keepIn K (.ref a2) = true)
    (f4l : K.lookup a4 = some ⟨oc4, od4, .func (PySem.W.fnOf "__init__" "TooMany.__init__" (defArgs s_TooMany_init) (defBody s_TooMany_init) (defScope s_TooMany_init) .none kV4 dc4 pm4 an4 cd4 ct4), sl4⟩)
    (f4c : PySem.W.codeIn K cd4 "TooMany.__init__" = true)
    (f4k : PySem.W.keepIn K (.ref a4) = true)
    (f16a : PySem.W.nsIn K mainGlobals "_law_refusal" = some (some (.ref a16)))
    (f16l : K.lookup a16 = some ⟨oc16, od16, .func (PySem.W.fnOf "_law_refusal" "_law_refusal" (defArgs s__law_refusal) (defBody s__law_refusal) (defScope s__law_refusal) .none kV16 dc16 pm16 an16 cd16 ct16), sl16⟩)
    (f16c : PySem.W.codeIn K cd16 "_law_refusal" = true)
    (f16k : PySem.W.keepIn K (.ref a16) = true)
    (f15a : PySem.W.nsIn K mainGlobals "_law_refused" = some (some (.ref a15)))
    (f15l : K.lookup a15 = some ⟨oc15, od15, .func (PySem.W.fnOf "_law_refused" "_law_refused" (defArgs s__law_refused) (defBody s__law_refused) (defScope s__law_refused) .none kV15 dc15 pm15 an15 cd15 ct15), sl15⟩)
    (f15c : PySem.W.codeIn K cd15 "_law_refused" = true)
    (f15k : PySem.W.keepIn K (.ref a15) = true)
    (f17a : PySem.W.nsIn K mainGlobals "law" = some (some (.ref a17)))
    (f17l : K.lookup a17 = some ⟨oc17, od17, .func (PySem.W.fnOf "law" "law" (defArgs s_law) (defBody s_law) (defScope s_law) .none kV17 dc17 pm17 an17 cd17 ct17), sl17⟩)
    (f17c : PySem.W.codeIn K cd17 "law" = true)
    (f17k : PySem.W.keepIn K (.ref a17) = true)
    (z_len : PySem.W.nsIn K mainGlobals "len" = some none)
    (z_int : PySem.W.nsIn K mainGlobals "int" = some none)
    (z_isinstance : PySem.W.nsIn K mainGlobals "isinstance" = some none)
    (z_bool : PySem.W.nsIn K mainGlobals "bool" = some none)
    (z_tuple : PySem.W.nsIn K mainGlobals "tuple" = some none)
    (z_list : PySem.W.nsIn K mainGlobals "list" = some none)
    (z_all : PySem.W.nsIn K mainGlobals "all" = some none)
    (z_abs : PySem.W.nsIn K mainGlobals "abs" = some none)
    (z_range : PySem.W.nsIn K mainGlobals "range" = some none)
    (z_repr : PySem.W.nsIn K mainGlobals "repr" = some none)
    (z_ValueError : PySem.W.nsIn K mainGlobals "ValueError" = some none)
    (z_min : PySem.W.nsIn K mainGlobals "min" = some none)
    (g_MOST_PLACES : PySem.W.nsIn K mainGlobals "MOST_PLACES" = some (some (.int 128 t_MOST_PLACES)))
    (c6pg : PySem.W.plainGet K C6 Str.empty = true)
    (c6hd : PySem.W.hasDictIn K C6 = true)
    (c6po : PySem.W.plainOver K C6 = true)
    (c6sa : PySem.W.findIn K (.ref C6) "__setattr__" = some (some (.builtin "object.__setattr__")))
    (c6n_asked : PySem.W.findIn K (.ref C6) "asked" = some none)
    (c6n_table : PySem.W.findIn K (.ref C6) "table" = some none)
    (c6m___len__ : PySem.W.findIn K (.ref C6) "__len__" = some (some (.ref a11)))
    (c6f___len__ : PySem.W.isFn K (.ref a11) = true)
    (c6m_ask : PySem.W.findIn K (.ref C6) "ask" = some (some (.ref a9)))
    (c6f_ask : PySem.W.isFn K (.ref a9) = true)
    (c6pa_asks : PySem.W.findIn K (.ref C6) "asks" = some (some (.ref pp6_asks)))
    (c6pb_asks : PySem.W.specialIn K (.ref pp6_asks) "__get__" = some (some (.builtin "property.__get__")))
    (c6pc_asks : PySem.W.takesIn K (.ref pp6_asks) = some true)
    (c6pd_asks : PySem.W.recIn K pp6_asks "property" = some (.ref a10 :: pq6_asks))
    (c6mk : PySem.W.makesIn K C6 = true)
    (c6mi : PySem.W.findIn K (.ref C6) "__init__" = some (some (.ref a8)))
    (c6mf : PySem.W.isFn K (.ref a8) = true)
    (c6mp : PySem.W.keepIn K (.ref C6) = true)
    (x4a : PySem.W.nsIn K mainGlobals "InvalidTable" = some (some (.ref C4)))
    (x4l : K.lookup C4 = some (excClassObj nm4 q4 C4 N4 bs4 bm4 true sn4 sub4 ab4 col4 dd4 m0_4 m1_4 m2_4 m3_4 m5_4 "ValueError.__new__"))
    (x4b : PySem.HandSPX.refsVE bm4 = true)
    (x4s : PySem.W.findIn K (.ref C4) "__setattr__" = some (some (.builtin "object.__setattr__")))
    (x4e : PySem.W.subIn K (.ref C4) (.type "BaseException") = some true)
    (x4t : PySem.W.typeIn K (.ref C4) = some (.type "type"))
    (x4k : PySem.W.keepIn K (.ref C4) = true)
    (x4i : PySem.W.findIn K (.ref C4) "__init__" = some (some (.ref a3)))
    (x4f : PySem.W.typeIn K (.ref a3) = some (.type "function"))
    (x4n_value : PySem.W.findIn K (.ref C4) "value" = some none)
    (x1a : PySem.W.nsIn K mainGlobals "InvalidNumber" = some (some (.ref C1)))
    (x1l : K.lookup C1 = some (excClassObj nm1 q1 C1 N1 bs1 bm1 true sn1 sub1 ab1 col1 dd1 m0_1 m1_1 m2_1 m3_1 m5_1 "ValueError.__new__"))
    (x1b : PySem.HandSPX.refsVE bm1 = true)
    (x1s : PySem.W.findIn K (.ref C1) "__setattr__" = some (some (.builtin "object.__setattr__")))
    (x1e : PySem.W.subIn K (.ref C1) (.type "BaseException") = some true)
    (x1t : PySem.W.typeIn K (.ref C1) = some (.type "type"))
    (x1k : PySem.W.keepIn K (.ref C1) = true)
    (x1i : PySem.W.findIn K (.ref C1) "__init__" = some (some (.ref a0)))
    (x1f : PySem.W.typeIn K (.ref a0) = some (.type "function"))
    (x1n_value : PySem.W.findIn K (.ref C1) "value" = some none)
    (x2a : PySem.W.nsIn K mainGlobals "InvalidMap" = some (some (.ref C2)))
    (x2l : K.lookup C2 = some (excClassObj nm2 q2 C2 N2 bs2 bm2 true sn2 sub2 ab2 col2 dd2 m0_2 m1_2 m2_2 m3_2 m5_2 "ValueError.__new__"))
    (x2b : PySem.HandSPX.refsVE bm2 = true)
    (x2s : PySem.W.findIn K (.ref C2) "__setattr__" = some (some (.builtin "object.__setattr__")))
    (x2e : PySem.W.subIn K (.ref C2) (.type "BaseException") = some true)
    (x2t : PySem.W.typeIn K (.ref C2) = some (.type "type"))
    (x2k : PySem.W.keepIn K (.ref C2) = true)
    (x2i : PySem.W.findIn K (.ref C2) "__init__" = some (some (.ref a1)))
    (x2f : PySem.W.typeIn K (.ref a1) = some (.type "function"))
    (x2n_value : PySem.W.findIn K (.ref C2) "value" = some none)
    (x3a : PySem.W.nsIn K mainGlobals "InvalidSamples" = some (some (.ref C3)))
    (x3l : K.lookup C3 = some (excClassObj nm3 q3 C3 N3 bs3 bm3 true sn3 sub3 ab3 col3 dd3 m0_3 m1_3 m2_3 m3_3 m5_3 "ValueError.__new__"))
    (x3b : PySem.HandSPX.refsVE bm3 = true)
    (x3s : PySem.W.findIn K (.ref C3) "__setattr__" = some (some (.builtin "object.__setattr__")))
    (x3e : PySem.W.subIn K (.ref C3) (.type "BaseException") = some true)
    (x3t : PySem.W.typeIn K (.ref C3) = some (.type "type"))
    (x3k : PySem.W.keepIn K (.ref C3) = true)
    (x3i : PySem.W.findIn K (.ref C3) "__init__" = some (some (.ref a2)))
    (x3f : PySem.W.typeIn K (.ref a2) = some (.type "function"))
    (x3n_value : PySem.W.findIn K (.ref C3) "value" = some none)
    (x5a : PySem.W.nsIn K mainGlobals "TooMany" = some (some (.ref C5)))
    (x5l : K.lookup C5 = some (excClassObj nm5 q5 C5 N5 bs5 bm5 true sn5 sub5 ab5 col5 dd5 m0_5 m1_5 m2_5 m3_5 m5_5 "ValueError.__new__"))
    (x5b : PySem.HandSPX.refsVE bm5 = true)
    (x5s : PySem.W.findIn K (.ref C5) "__setattr__" = some (some (.builtin "object.__setattr__")))
    (x5e : PySem.W.subIn K (.ref C5) (.type "BaseException") = some true)
    (x5t : PySem.W.typeIn K (.ref C5) = some (.type "type"))
    (x5k : PySem.W.keepIn K (.ref C5) = true)
    (x5i : PySem.W.findIn K (.ref C5) "__init__" = some (some (.ref a4)))
    (x5f : PySem.W.typeIn K (.ref a4) = some (.type "function"))
    (x5n_what : PySem.W.findIn K (.ref C5) "what" = some none)
    (e4hg : PySem.W.findIn K (.ref C4) "__getattribute__" = some (some (.builtin "BaseException.__getattribute__")))
    (e4hk : PySem.W.findIn K (.ref C4) "__getattr__" = some none)
    (e4hd : PySem.W.hasDictIn K C4 = true)
    (e4ha : PySem.W.findIn K (.ref C4) "__class__" = some (some (.builtin "object.__class__")))
    (e4hm : PySem.W.mroIn K C4 (.type "object") = some true)
    (s4_InvalidMap : PySem.W.subIn K (.ref C4) (.ref C2) = some false)
    (s4_InvalidNumber : PySem.W.subIn K (.ref C4) (.ref C1) = some false)
    (s4_InvalidSamples : PySem.W.subIn K (.ref C4) (.ref C3) = some false)
    (s4_InvalidTable : PySem.W.subIn K (.ref C4) (.ref C4) = some true)
    (s4_NinthError : PySem.W.subIn K (.ref C4) (.ref C0) = some true)
    (s4_TooMany : PySem.W.subIn K (.ref C4) (.ref C5) = some false)
    (s4_ValueError : PySem.W.subIn K (.ref C4) (.type "ValueError") = some true)
    (e1hg : PySem.W.findIn K (.ref C1) "__getattribute__" = some (some (.builtin "BaseException.__getattribute__")))
    (e1hk : PySem.W.findIn K (.ref C1) "__getattr__" = some none)
    (e1hd : PySem.W.hasDictIn K C1 = true)
    (e1ha : PySem.W.findIn K (.ref C1) "__class__" = some (some (.builtin "object.__class__")))
    (e1hm : PySem.W.mroIn K C1 (.type "object") = some true)
    (s1_InvalidMap : PySem.W.subIn K (.ref C1) (.ref C2) = some false)
    (s1_InvalidNumber : PySem.W.subIn K (.ref C1) (.ref C1) = some true)
    (s1_InvalidSamples : PySem.W.subIn K (.ref C1) (.ref C3) = some false)
    (s1_InvalidTable : PySem.W.subIn K (.ref C1) (.ref C4) = some false)
    (s1_NinthError : PySem.W.subIn K (.ref C1) (.ref C0) = some true)
    (s1_TooMany : PySem.W.subIn K (.ref C1) (.ref C5) = some false)
    (s1_ValueError : PySem.W.subIn K (.ref C1) (.type "ValueError") = some true)
    (k2i : PySem.W.isClsIn K C2 = true)
    (k2t : PySem.W.typeIn K (.ref C2) = some (.type "type"))
    (k2s : PySem.W.subIn K (.ref C2) (.ref C2) = some true)
    (k2d : PySem.W.hasDictIn K C2 = true)
    (k2b : PySem.W.subIn K (.ref C2) (.type "BaseException") = some true)
    (k1i : PySem.W.isClsIn K C1 = true)
    (k1t : PySem.W.typeIn K (.ref C1) = some (.type "type"))
    (k1s : PySem.W.subIn K (.ref C1) (.ref C1) = some true)
    (k1d : PySem.W.hasDictIn K C1 = true)
    (k1b : PySem.W.subIn K (.ref C1) (.type "BaseException") = some true)
    (k3i : PySem.W.isClsIn K C3 = true)
    (k3t : PySem.W.typeIn K (.ref C3) = some (.type "type"))
    (k3s : PySem.W.subIn K (.ref C3) (.ref C3) = some true)
    (k3d : PySem.W.hasDictIn K C3 = true)
    (k3b : PySem.W.subIn K (.ref C3) (.type "BaseException") = some true)
    (k4i : PySem.W.isClsIn K C4 = true)
    (k4t : PySem.W.typeIn K (.ref C4) = some (.type "type"))
    (k4s : PySem.W.subIn K (.ref C4) (.ref C4) = some true)
    (k4d : PySem.W.hasDictIn K C4 = true)
    (k4b : PySem.W.subIn K (.ref C4) (.type "BaseException") = some true)
    (k0i : PySem.W.isClsIn K C0 = true)
    (k0t : PySem.W.typeIn K (.ref C0) = some (.type "type"))
    (k0s : PySem.W.subIn K (.ref C0) (.ref C0) = some true)
    (k0d : PySem.W.hasDictIn K C0 = true)
    (k0b : PySem.W.subIn K (.ref C0) (.type "BaseException") = some true)
    (k5i : PySem.W.isClsIn K C5 = true)
    (k5t : PySem.W.typeIn K (.ref C5) = some (.type "type"))
    (k5s : PySem.W.subIn K (.ref C5) (.ref C5) = some true)
    (k5d : PySem.W.hasDictIn K C5 = true)
    (k5b : PySem.W.subIn K (.ref C5) (.type "BaseException") = some true)
    (ehn : PySem.W.specialIn K (.builtin "object.__class__") "__get__" = some (some (.builtin "getset_descriptor.__get__")))
    (eht : PySem.W.takesIn K (.builtin "object.__class__") = some true)
    : ∃ (c : Ck) (fd : FuncData), c.ex = none ∧ (∀ (s : Shared) (u : Value), BindsTo s fd ⟨[u], []⟩ [("_law_script", u)]) ∧ ∀ base : Heap, K.In base → base.Ns mainGlobals mg → FnS c PySem.Challenge.rw_sevenninths_k39_boxes.prog w K mg base 7 fl fd ["_law_script"] m_law := by
  cases hfl.symm.trans (PySem.W.mg_of X G f17a)
  let c : Ck := Ck.mk (fun n => match n with
    | 0 => C0
    | 1 => C1
    | 2 => C2
    | 3 => C3
    | 4 => C4
    | 5 => C5
    | 6 => C6
    | _ => 0) none
  let fa : Nat → Addr := fun n => match n with
    | 13 => a13
    | 3 => a3
    | 5 => a5
    | 6 => a6
    | 8 => a8
    | 12 => a12
    | 14 => a14
    | 11 => a11
    | 10 => a10
    | 7 => a7
    | 0 => a0
    | 9 => a9
    | 1 => a1
    | 2 => a2
    | 4 => a4
    | 16 => a16
    | 15 => a15
    | 17 => fl
    | _ => 0
  let fd : Nat → FuncData := fun n => match n with
    | 13 => PySem.W.fnOf "_law_take" "_law_take" (defArgs s__law_take) (defBody s__law_take) (defScope s__law_take) .none kV13 dc13 pm13 an13 cd13 ct13
    | 3 => PySem.W.fnOf "__init__" "InvalidTable.__init__" (defArgs s_InvalidTable_init) (defBody s_InvalidTable_init) (defScope s_InvalidTable_init) .none kV3 dc3 pm3 an3 cd3 ct3
    | 5 => PySem.W.fnOf "is_integer" "is_integer" (defArgs s_is_integer) (defBody s_is_integer) (defScope s_is_integer) .none kV5 dc5 pm5 an5 cd5 ct5
    | 6 => PySem.W.fnOf "is_number" "is_number" (defArgs s_is_number) (defBody s_is_number) (defScope s_is_number) .none kV6 dc6 pm6 an6 cd6 ct6
    | 8 => PySem.W.fnOf "__init__" "Box.__init__" (defArgs s_Box_ddinitdd) (defBody s_Box_ddinitdd) (defScope s_Box_ddinitdd) .none kV8 dc8 pm8 an8 cd8 ct8
    | 12 => PySem.W.fnOf "_law_draws" "_law_draws" (defArgs s__law_draws) (defBody s__law_draws) (defScope s__law_draws) .none kV12 dc12 pm12 an12 cd12 ct12
    | 14 => PySem.W.fnOf "_law_number" "_law_number" (defArgs s__law_number) (defBody s__law_number) (defScope s__law_number) .none kV14 dc14 pm14 an14 cd14 ct14
    | 11 => PySem.W.fnOf "__len__" "Box.__len__" (defArgs s_Box_ddlendd) (defBody s_Box_ddlendd) (defScope s_Box_ddlendd) .none kV11 dc11 pm11 an11 cd11 ct11
    | 10 => PySem.W.fnOf "asks" "Box.asks" (defArgs s_Box_asks) (defBody s_Box_asks) (defScope s_Box_asks) .none kV10 dc10 pm10 an10 cd10 ct10
    | 7 => PySem.W.fnOf "is_below" "is_below" (defArgs s_is_below) (defBody s_is_below) (defScope s_is_below) .none kV7 dc7 pm7 an7 cd7 ct7
    | 0 => PySem.W.fnOf "__init__" "InvalidNumber.__init__" (defArgs s_InvalidNumber_init) (defBody s_InvalidNumber_init) (defScope s_InvalidNumber_init) .none kV0 dc0 pm0 an0 cd0 ct0
    | 9 => PySem.W.fnOf "ask" "Box.ask" (defArgs s_Box_ask) (defBody s_Box_ask) (defScope s_Box_ask) .none kV9 dc9 pm9 an9 cd9 ct9
    | 1 => PySem.W.fnOf "__init__" "InvalidMap.__init__" (defArgs s_InvalidMap_init) (defBody s_InvalidMap_init) (defScope s_InvalidMap_init) .none kV1 dc1 pm1 an1 cd1 ct1
    | 2 => PySem.W.fnOf "__init__" "InvalidSamples.__init__" (defArgs s_InvalidSamples_init) (defBody s_InvalidSamples_init) (defScope s_InvalidSamples_init) .none kV2 dc2 pm2 an2 cd2 ct2
    | 4 => PySem.W.fnOf "__init__" "TooMany.__init__" (defArgs s_TooMany_init) (defBody s_TooMany_init) (defScope s_TooMany_init) .none kV4 dc4 pm4 an4 cd4 ct4
    | 16 => PySem.W.fnOf "_law_refusal" "_law_refusal" (defArgs s__law_refusal) (defBody s__law_refusal) (defScope s__law_refusal) .none kV16 dc16 pm16 an16 cd16 ct16
    | 15 => PySem.W.fnOf "_law_refused" "_law_refused" (defArgs s__law_refused) (defBody s__law_refused) (defScope s__law_refused) .none kV15 dc15 pm15 an15 cd15 ct15
    | 17 => PySem.W.fnOf "law" "law" (defArgs s_law) (defBody s_law) (defScope s_law) .none kV17 dc17 pm17 an17 cd17 ct17
    | _ => PySem.W.fnOf "law" "law" (defArgs s_law) (defBody s_law) (defScope s_law) .none kV17 dc17 pm17 an17 cd17 ct17
  have T : Txt K mg c fa fd := {
    ex := rfl
    tab := ⟨(fun _ z => absurd z List.not_mem_nil), (fun _ z => absurd z List.not_mem_nil)⟩
    b_len := PySem.W.mg_none_of X G z_len
    b_int := PySem.W.mg_none_of X G z_int
    b_isinstance := PySem.W.mg_none_of X G z_isinstance
    b_bool := PySem.W.mg_none_of X G z_bool
    b_tuple := PySem.W.mg_none_of X G z_tuple
    b_list := PySem.W.mg_none_of X G z_list
    b_all := PySem.W.mg_none_of X G z_all
    b_abs := PySem.W.mg_none_of X G z_abs
    b_range := PySem.W.mg_none_of X G z_range
    b_repr := PySem.W.mg_none_of X G z_repr
    b_ValueError := PySem.W.mg_none_of X G z_ValueError
    b_min := PySem.W.mg_none_of X G z_min
    g_MOST_PLACES := ⟨_, PySem.W.mg_of X G g_MOST_PLACES⟩
    cl_Box := ⟨c6pg, c6hd, c6po, c6sa⟩
    na_Box_asked := c6n_asked
    na_Box_table := c6n_table
    me_Box___len__ := ⟨c6m___len__, c6f___len__, f11k⟩
    me_Box_ask := ⟨c6m_ask, c6f_ask, f9k⟩
    pr_Box_asks := ⟨_, c6pa_asks, c6pb_asks, c6pc_asks, _, c6pd_asks⟩
    mk_Box := ⟨c6mk, c6mi, c6mf, c6mp⟩
    c_Box := PySem.W.mg_of X G y6a
    f__law_take := Fd.mk' X G f13a f13l f13c f13k (fun _ _ _ _ _ _ us hl => match us, hl with | [_, _], _ => rfl)
    x_InvalidTable := ⟨fun_mk (st := s_InvalidTable_init) f3l f3c f3k, (fun_mk (st := s_InvalidTable_init) f3l f3c f3k).binds (fun _ _ _ _ _ _ us hl => match us, hl with | [_, _], _ => rfl), PySem.W.mg_of X G x4a, oex_mk x4l x4b x4s x4e x4t x4k, x4i, x4f⟩
    n_InvalidTable_value := x4n_value
    f_is_integer := Fd.mk' X G f5a f5l f5c f5k (fun _ _ _ _ _ _ us hl => match us, hl with | [_], _ => rfl)
    f_is_number := Fd.mk' X G f6a f6l f6c f6k (fun _ _ _ _ _ _ us hl => match us, hl with | [_], _ => rfl)
    f_Box_ddinitdd := ⟨fun_mk (st := s_Box_ddinitdd) f8l f8c f8k, (fun_mk (st := s_Box_ddinitdd) f8l f8c f8k).binds (fun _ _ _ _ _ _ us hl => match us, hl with | [_, _], _ => rfl)⟩
    f__law_draws := Fd.mk' X G f12a f12l f12c f12k (fun _ _ _ _ _ _ us hl => match us, hl with | [_, _], _ => rfl)
    f__law_number := Fd.mk' X G f14a f14l f14c f14k (fun _ _ _ _ _ _ us hl => match us, hl with | [_], _ => rfl)
    f_Box_ddlendd := ⟨fun_mk (st := s_Box_ddlendd) f11l f11c f11k, (fun_mk (st := s_Box_ddlendd) f11l f11c f11k).binds (fun _ _ _ _ _ _ us hl => match us, hl with | [_], _ => rfl)⟩
    f_Box_asks := ⟨fun_mk (st := s_Box_asks) f10l f10c f10k, (fun_mk (st := s_Box_asks) f10l f10c f10k).binds (fun _ _ _ _ _ _ us hl => match us, hl with | [_], _ => rfl)⟩
    f_is_below := Fd.mk' X G f7a f7l f7c f7k (fun _ _ _ _ _ _ us hl => match us, hl with | [_, _], _ => rfl)
    x_InvalidNumber := ⟨fun_mk (st := s_InvalidNumber_init) f0l f0c f0k, (fun_mk (st := s_InvalidNumber_init) f0l f0c f0k).binds (fun _ _ _ _ _ _ us hl => match us, hl with | [_, _], _ => rfl), PySem.W.mg_of X G x1a, oex_mk x1l x1b x1s x1e x1t x1k, x1i, x1f⟩
    n_InvalidNumber_value := x1n_value
    f_Box_ask := ⟨fun_mk (st := s_Box_ask) f9l f9c f9k, (fun_mk (st := s_Box_ask) f9l f9c f9k).binds (fun _ _ _ _ _ _ us hl => match us, hl with | [_, _], _ => rfl)⟩
    x_InvalidMap := ⟨fun_mk (st := s_InvalidMap_init) f1l f1c f1k, (fun_mk (st := s_InvalidMap_init) f1l f1c f1k).binds (fun _ _ _ _ _ _ us hl => match us, hl with | [_, _], _ => rfl), PySem.W.mg_of X G x2a, oex_mk x2l x2b x2s x2e x2t x2k, x2i, x2f⟩
    n_InvalidMap_value := x2n_value
    x_InvalidSamples := ⟨fun_mk (st := s_InvalidSamples_init) f2l f2c f2k, (fun_mk (st := s_InvalidSamples_init) f2l f2c f2k).binds (fun _ _ _ _ _ _ us hl => match us, hl with | [_, _], _ => rfl), PySem.W.mg_of X G x3a, oex_mk x3l x3b x3s x3e x3t x3k, x3i, x3f⟩
    n_InvalidSamples_value := x3n_value
    x_TooMany := ⟨fun_mk (st := s_TooMany_init) f4l f4c f4k, (fun_mk (st := s_TooMany_init) f4l f4c f4k).binds (fun _ _ _ _ _ _ us hl => match us, hl with | [_, _], _ => rfl), PySem.W.mg_of X G x5a, oex_mk x5l x5b x5s x5e x5t x5k, x5i, x5f⟩
    n_TooMany_what := x5n_what
    f__law_refusal := Fd.mk' X G f16a f16l f16c f16k (fun _ _ _ _ _ _ us hl => match us, hl with | [_, _], _ => rfl)
    f__law_refused := Fd.mk' X G f15a f15l f15c f15k (fun _ _ _ _ _ _ us hl => match us, hl with | [_], _ => rfl)
    f_law := Fd.mk' X G f17a f17l f17c f17k (fun _ _ _ _ _ _ us hl => match us, hl with | [_], _ => rfl)
    xtab := ⟨(List.forall_mem_cons.mpr ⟨(kit_ref k2i k2t s4_InvalidMap k2s), (List.forall_mem_cons.mpr ⟨(kit_ref k2i k2t s1_InvalidMap k2s), (List.forall_mem_cons.mpr ⟨(kit_ref k1i k1t s4_InvalidNumber k1s), (List.forall_mem_cons.mpr ⟨(kit_ref k1i k1t s1_InvalidNumber k1s), (List.forall_mem_cons.mpr ⟨(kit_ref k3i k3t s4_InvalidSamples k3s), (List.forall_mem_cons.mpr ⟨(kit_ref k3i k3t s1_InvalidSamples k3s), (List.forall_mem_cons.mpr ⟨(kit_ref k4i k4t s4_InvalidTable k4s), (List.forall_mem_cons.mpr ⟨(kit_ref k4i k4t s1_InvalidTable k4s), (List.forall_mem_cons.mpr ⟨(kit_ref k5i k5t s4_TooMany k5s), (List.forall_mem_cons.mpr ⟨(kit_ref k5i k5t s1_TooMany k5s), (List.forall_mem_cons.mpr ⟨(kit_ty (by decide +kernel) s4_ValueError), (List.forall_mem_cons.mpr ⟨(kit_ty (by decide +kernel) s1_ValueError), (fun _ z => absurd z List.not_mem_nil)⟩)⟩)⟩)⟩)⟩)⟩)⟩)⟩)⟩)⟩)⟩)⟩), (List.forall_mem_cons.mpr ⟨(fun C z => by cases z; exact ⟨e4hg, e4hk, x4e, e4hd, e4ha, ehn, eht, e4hm⟩), (List.forall_mem_cons.mpr ⟨(fun C z => by cases z; exact ⟨e1hg, e1hk, x1e, e1hd, e1ha, ehn, eht, e1hm⟩), (List.forall_mem_cons.mpr ⟨(fun C z => by cases z; exact ⟨e4hg, e4hk, x4e, e4hd, e4ha, ehn, eht, e4hm⟩), (List.forall_mem_cons.mpr ⟨(fun C z => by cases z; exact ⟨e1hg, e1hk, x1e, e1hd, e1ha, ehn, eht, e1hm⟩), (List.forall_mem_cons.mpr ⟨(fun C z => by cases z; exact ⟨e4hg, e4hk, x4e, e4hd, e4ha, ehn, eht, e4hm⟩), (List.forall_mem_cons.mpr ⟨(fun C z => by cases z; exact ⟨e1hg, e1hk, x1e, e1hd, e1ha, ehn, eht, e1hm⟩), (List.forall_mem_cons.mpr ⟨(fun C z => by cases z; exact ⟨e4hg, e4hk, x4e, e4hd, e4ha, ehn, eht, e4hm⟩), (List.forall_mem_cons.mpr ⟨(fun C z => by cases z; exact ⟨e1hg, e1hk, x1e, e1hd, e1ha, ehn, eht, e1hm⟩), (List.forall_mem_cons.mpr ⟨(fun C z => by cases z; exact ⟨e4hg, e4hk, x4e, e4hd, e4ha, ehn, eht, e4hm⟩), (List.forall_mem_cons.mpr ⟨(fun C z => by cases z; exact ⟨e1hg, e1hk, x1e, e1hd, e1ha, ehn, eht, e1hm⟩), (List.forall_mem_cons.mpr ⟨(fun C z => by cases z; exact ⟨e4hg, e4hk, x4e, e4hd, e4ha, ehn, eht, e4hm⟩), (List.forall_mem_cons.mpr ⟨(fun C z => by cases z; exact ⟨e1hg, e1hk, x1e, e1hd, e1ha, ehn, eht, e1hm⟩), (fun _ z => absurd z List.not_mem_nil)⟩)⟩)⟩)⟩)⟩)⟩)⟩)⟩)⟩)⟩)⟩)⟩)⟩
    sub_NinthError := fun C b h => by
      unfold sub_NinthError at h
      rw [List.lookup_cons] at h
      split at h
      · rename_i z; cases h; cases eq_of_beq z; exact (PySem.W.exm_ref k0b k0d k0t s4_NinthError)
      rw [List.lookup_cons] at h
      split at h
      · rename_i z; cases h; cases eq_of_beq z; exact (PySem.W.exm_ref k0b k0d k0t s1_NinthError)
      cases h
    c_InvalidMap := PySem.W.mg_of X G x2a
    c_InvalidNumber := PySem.W.mg_of X G x1a
    c_InvalidSamples := PySem.W.mg_of X G x3a
    c_InvalidTable := PySem.W.mg_of X G x4a
    c_NinthError := PySem.W.mg_of X G y0a
    c_TooMany := PySem.W.mg_of X G x5a
    xf_value := (List.forall_mem_cons.mpr ⟨⟨ExcC.xf ⟨e4hg, e4hk, x4e, e4hd, e4ha, ehn, eht, e4hm⟩, x4n_value⟩, (List.forall_mem_cons.mpr ⟨⟨ExcC.xf ⟨e1hg, e1hk, x1e, e1hd, e1ha, ehn, eht, e1hm⟩, x1n_value⟩, (fun _ z => absurd z List.not_mem_nil)⟩)⟩)
    xf_what := (fun _ z => absurd z List.not_mem_nil)
  }
  exact ⟨c, fd 17, rfl, fun s u => .of_eq rfl, fun base _ _ => ok_law T⟩
end Pm
namespace Pm
open PySem PySem.Spec L2 PyProof.Rows
/-! ### the draws -/
theorem at0 {α : Type} (h : List α) (a b : α) : (h ++ [a, b])[h.length]? = some a := by simp
theorem at1 {α : Type} (h : List α) (a b : α) : (h ++ [a, b])[h.length + 1]? = some b := by simp
theorem st0 {α : Type} (h : List α) (a b c : α) : (h ++ [a, b]).set h.length c = h ++ [c, b] := by simp
theorem st1 {α : Type} (h : List α) (a b c : α) : (h ++ [a, b]).set (h.length + 1) c = h ++ [a, c] := by simp
abbrev small (d : Int) : Prop := 0 ≤ d ∧ d < 2147483648
theorem pow18 {h : VH} : powP (.int 10) (.int 18) h = .ok (.int 1000000000000000000) h :=
  (int2_ok (gp := fun i j => .int (i ^ j.toNat)) (⟨by decide, by decide, by decide⟩ : CPow 10 18)).trans rfl
theorem rngL_get {lo : Int} {n i : Nat} {x : PV} (h : (rngL lo n)[i]? = some x) : i < n ∧ x = .int (lo + i) := by
  have hi : i < n := by
    have := (List.getElem?_eq_some_iff.mp h).1
    simpa using this
  simp only [rngL, List.getElem?_map, List.getElem?_range hi] at h
  exact ⟨hi, by cases h; rfl⟩
theorem mod_small {a b : Int} (h : 0 < b) (hb : b ≤ 2147483648) : small (a % b) := ⟨Int.emod_nonneg _ (by omega), by have := Int.emod_lt_of_pos a h; omega⟩
theorem m_draws_eq (ns : List Int) (hl : ns.length ≤ 63) (many : Nat) (hm : many ≤ 100000) (h : VH) :
    ∃ ds : List Int, ds.length = many ∧ (∀ d ∈ ds, small d) ∧ m__law_draws [.scr (ns.map PV.int), .int (many : Nat)] h = .ok (.lst (ds.map PV.int)) h := by
  unfold m__law_draws
  rw [fnRun_go (σ := [some (.scr (ns.map PV.int)), some (.int (many : Nat)), none, none, none, none, none, none]) _ _ _ _ rfl]
  have hc := compL_ints (ck := []) (ws := [3]) (gm := gSlot 3) (mt := tYesM) (me := eCall (one absP) (aCons (eCall (one intP) (aCons (eVar 3) aNil)) aNil)) (σ := [some (.scr (ns.map PV.int)), some (.int (many : Nat)), none, none, none, none, none, none]) (f := fun i => if i < 0 then -i else i) (ns := ns) (h := h) (by simp)
    (fun n _ => ⟨_, rfl, rfl, by simp only [pmS, wipeL]⟩) (by omega)
  have hr := fun h => srcRng1 (j := (many : Int)) (h := h) (by omega)
  simp only [pmS, hc, hr, Int.toNat_natCast, List.length_append, List.length_singleton, List.append_assoc, List.singleton_append]
  refine for_go (R := fun r => ∃ ds : List Int, ds.length = many ∧ (∀ d ∈ ds, small d) ∧ fin h (r.bind (sRet (eFrz (eVar 4)))) = .ok (.lst (ds.map PV.int)) h)
    (fun i σ h' => ∃ ds rs : List Int, ∃ a b c d, ds.length = i ∧ (∀ d ∈ ds, small d) ∧ rs.length = ns.length ∧ h' = h ++ [.lst (rs.map PV.int), .lst (ds.map PV.int)] ∧ σ = [some (.scr (ns.map PV.int)), some (.int (many : Nat)), some (.ref h.length), a, some (.ref (h.length + 1)), b, c, d])
    ⟨[], _, none, none, none, none, rfl, by simp, by simp, rfl, rfl⟩ ?_ ?_
  · rintro i x σ h' hx ⟨ds, rs, a, b, c, d, el, hs, er, rfl, rfl⟩
    obtain ⟨hi, rfl⟩ := rngL_get hx
    refine ⟨by simp, _, _, rfl, ?_⟩
    have push : ∀ (v : Int) (a b c d : Option PV) (rs' : List Int), small v → rs'.length = ns.length → ∃ ds' rs : List Int, ∃ a' b' c' d', ds'.length = i + 1 ∧ (∀ d ∈ ds', small d) ∧ rs.length = ns.length ∧ h ++ [.lst (rs'.map PV.int), .lst (ds.map PV.int ++ [.int v])] = h ++ [.lst (rs.map PV.int), .lst (ds'.map PV.int)] ∧
        [some (.scr (ns.map PV.int)), some (.int (many : Nat)), some (.ref h.length), a, some (.ref (h.length + 1)), b, c, d] = [some (.scr (ns.map PV.int)), some (.int (many : Nat)), some (.ref h.length), a', some (.ref (h.length + 1)), b', c', d'] := fun v a b c d rs' hv hr' =>
      ⟨ds ++ [v], rs', a, b, c, d, by simp [el], fun z hz => by rcases List.mem_append.mp hz with q | q; exact hs z q; rw [List.mem_singleton.mp q]; exact hv, hr', by simp, rfl⟩
    have app : ∀ (v : Int) (rs' : List Int), appendP (.ref (h.length + 1)) [.int v] (h ++ [.lst (rs'.map PV.int), .lst (ds.map PV.int)]) = .ok .non (h ++ [.lst (rs'.map PV.int), .lst (ds.map PV.int ++ [.int v])]) := fun v rs' => by
      rw [appendP_ok (at1 _ _ _) (by rw [List.length_map]; omega), st1]
    have lm : ∀ (rs' : List Int) (f : PV → List PV → VH → Res PV) (ms : AM) (σ : LS), lstMt (.ref (h.length + 1)) ms σ (h ++ [.lst (rs'.map PV.int), .lst (ds.map PV.int)]) f = (ms σ (h ++ [.lst (rs'.map PV.int), .lst (ds.map PV.int)])).bind fun xs h1 => f (.ref (h.length + 1)) xs h1 := fun rs' f ms σ => lstMt_ok (lstOf_ref (at1 _ _ _))
    have ml : ∀ (x y : Int) (h : VH), -(2 ^ 64) < y → y < 2 ^ 64 → mulP false (.int x) (.int y) h = .ok (.int (x * y)) h := fun x y h a b => mulP_r a b
    have mm : ∀ (x m y : Int) (h : VH), 0 < m → m < 2 ^ 64 → mulP false (.int (x % m)) (.int y) h = .ok (.int (x % m * y)) h := fun x m y h a b => mulP_l (by have := Int.emod_nonneg x (show m ≠ 0 by omega); omega) (by have := Int.emod_lt_of_pos x a; omega)
    have sm1 : ∀ x : Int, small (x % 2147483629) := fun x => mod_small (by omega) (by omega)
    have sm2 : ∀ x : Int, small (x % 1000003) := fun x => mod_small (by omega) (by omega)
    by_cases h0 : ns.length = 0
    · have : ¬ (0 : Int) < (ns.length : Int) := by omega
      simp only [pmS, List.length_map, this, decide_false, if_false, ml, mm, divP_pos, modP_pos, lm, app, Int.reduceLT, Int.reduceNeg, Int.reducePow, Bool.false_eq_true, Turn'_nx]
      exact push _ _ _ _ _ _ (sm1 _) er
    · have hpos : (0 : Int) < (ns.length : Int) := by omega
      obtain ⟨n, hn⟩ : ∃ n : Nat, n = i % ns.length := ⟨_, rfl⟩
      have hn2 : n < ns.length := by rw [hn]; exact Nat.mod_lt _ (by omega)
      have e1 : (0 + (i : Int)) % (ns.length : Int) = (n : Int) := by rw [hn]; simp
      have g1 : ∀ h, ixP (.scr (ns.map PV.int)) (.int (n : Int)) h = .ok (.int ns[n]) h := fun h => ixP_scr (by omega) (by simp [hn2])
      have hr2 : n < rs.length := by omega
      have g2 : ixP (.ref h.length) (.int (n : Int)) (h ++ [.lst (rs.map PV.int), .lst (ds.map PV.int)]) = .ok (.int rs[n]) (h ++ [.lst (rs.map PV.int), .lst (ds.map PV.int)]) := ixP_ref (at0 _ _ _) (by omega) (by simp [hr2])
      have g3 : ∀ v, ixP (.ref h.length) (.int (n : Int)) (h ++ [.lst (rs.map PV.int), .lst (ds.map PV.int ++ [v])]) = .ok (.int rs[n]) (h ++ [.lst (rs.map PV.int), .lst (ds.map PV.int ++ [v])]) := fun v => ixP_ref (at0 _ _ _) (by omega) (by simp [hr2])
      by_cases hb : (1000000000000000000 : Int) ≤ ns[n] ∧ 0 < rs[n]
      · have st : ∀ v w, setP (.ref h.length) (.int (n : Int)) (.int w) (h ++ [.lst (rs.map PV.int), .lst (ds.map PV.int ++ [v])]) = .ok () (h ++ [.lst ((rs.set n w).map PV.int), .lst (ds.map PV.int ++ [v])]) := fun v w => by
          rw [setP_ok (at0 _ _ _) (ixN_nat (by simpa using hr2)), st0, List.map_set]
        simp only [pmS, List.length_map, hpos, decide_true, if_true, modP_pos, e1, g1, g2, g3, pow18, hb.1, hb.2, divP_pos, lm, app, st, Int.reduceLT, Turn'_ct]
        exact push _ _ _ _ _ _ (sm2 _) (by simpa using er)
      · by_cases hb1 : (1000000000000000000 : Int) ≤ ns[n]
        · have hb2 : ¬ 0 < rs[n] := fun z => hb ⟨hb1, z⟩
          simp only [pmS, List.length_map, hpos, decide_true, if_true, modP_pos, e1, g1, g2, g3, pow18, hb1, hb2, decide_false, if_false, ml, mm, divP_pos, lm, app, Int.reduceLT, Int.reduceNeg, Int.reducePow, Bool.false_eq_true, Turn'_nx]
          exact push _ _ _ _ _ _ (sm1 _) er
        · simp only [pmS, List.length_map, hpos, decide_true, if_true, modP_pos, e1, g1, g2, g3, pow18, hb1, decide_false, if_false, ml, mm, divP_pos, lm, app, Int.reduceLT, Int.reduceNeg, Int.reducePow, Bool.false_eq_true, Turn'_nx]
          exact push _ _ _ _ _ _ (sm1 _) er
  · rintro σ h' ⟨ds, rs, a, b, c, d, el, hs, er, rfl, rfl⟩
    refine ⟨by simp, ds, by simpa using el, hs, ?_⟩
    simp only [pmS, frzP_lst (at1 _ _ _), st1]
    rw [show fin h (.rt (.lst (ds.map PV.int)) (h ++ [.lst (rs.map PV.int), .dead])) = gc h (.lst (ds.map PV.int)) (h ++ [.lst (rs.map PV.int), .dead]) from rfl, gc_app (by simp)]
/-! ### the hand -/
abbrev handO (ds : List Int) (a : Nat) : PO := .lst [.lst (ds.map PV.int), .int (a : Int)]
theorem gc_st {h : VH} {i : Nat} {o : PO} {v : PV} (co : closedO h.length o) (cv : closedV h.length v) : gc h v (h.set i o) = .ok v (h.set i o) := by
  rw [gc_eq (gcOk_set (gcOk_same h) co) cv, List.take_of_length_le (by simp)]
theorem gc_stA {h j : VH} {i : Nat} {o : PO} {v : PV} (co : closedO h.length o) (cv : closedV h.length v) : gc h v (h.set i o ++ j) = .ok v (h.set i o) := by
  rw [gc_eq ?_ cv, List.take_left' (by simp)]
  intro k p hk e
  rw [List.getElem?_append_left (by simpa using hk)] at e
  exact gcOk_set (gcOk_same h) co k p hk e
theorem handO_closed {n : Nat} (ds : List Int) (a : Nat) : closedO n (handO ds a) := by simp [closedO]
def tk (ds : List Int) (a : Nat) (many : Int) : Int := if h : a < ds.length then ds[a] / 7 % many else 0
theorem tk_pos (ds : List Int) (a : Nat) {many : Int} (hm : 0 < many) : 0 ≤ tk ds a many := by
  unfold tk; split
  · exact Int.emod_nonneg _ (by omega)
  · omega
theorem tk_lt (ds : List Int) (a : Nat) {many : Int} (hm : 0 < many) : tk ds a many < many := by
  unfold tk; split
  · exact Int.emod_lt_of_pos _ hm
  · exact hm
theorem take_eq {h : VH} {i : Nat} {ds : List Int} {a : Nat} {many : Int} (e : h[i]? = some (handO ds a)) (hm : 0 < many) :
    m__law_take [.ref i, .int many] h = .ok (.int (tk ds a many)) (h.set i (handO ds (a + 1))) := by
  unfold m__law_take
  rw [fnRun_go (σ := [some (.ref i), some (.int many), none, none]) _ _ _ _ rfl]
  have hi : i < h.length := (List.getElem?_eq_some_iff.mp e).1
  have g1 : ixP (.ref i) (.int 1) h = .ok (.int (a : Int)) h := ixP_ref e (by omega) rfl
  have s1 : setP (.ref i) (.int 1) (.int ((a : Int) + 1)) h = .ok () (h.set i (handO ds (a + 1))) := setP_ok e (j := 1) rfl
  have e2 : (h.set i (handO ds (a + 1)))[i]? = some (handO ds (a + 1)) := by simp [hi]
  have g2 : ixP (.ref i) (.int 0) (h.set i (handO ds (a + 1))) = .ok (.lst (ds.map PV.int)) (h.set i (handO ds (a + 1))) := ixP_ref e2 (by omega) rfl
  by_cases hb : (ds.length : Int) ≤ (a : Int)
  · have : tk ds a many = 0 := dif_neg (by omega)
    rw [this]
    simp only [pmS, g1, s1, g2, List.length_map, hb, decide_true, if_true]
    exact gc_st (handO_closed _ _) (by simp)
  · have ha : a < ds.length := by omega
    have g3 : ∀ h, ixP (.lst (ds.map PV.int)) (.int (a : Int)) h = .ok (.int ds[a]) h := fun h => ixP_lst (by omega) (by simp [ha])
    have : tk ds a many = ds[a] / 7 % many := dif_pos ha
    rw [this]
    simp only [pmS, g1, s1, g2, g3, List.length_map, hb, decide_false, if_false, divP_pos, modP_pos hm, Int.reduceLT, Bool.false_eq_true]
    exact gc_st (handO_closed _ _) (by simp)
theorem take0 {ds : List Int} {a : Nat} {many : Int} (hm : 0 < many) : m__law_take [.ref 0, .int many] [handO ds a] = .ok (.int (tk ds a many)) [handO ds (a + 1)] := take_eq rfl hm
/-- so many draws below p -/
def tks (ds : List Int) (a : Nat) (p : Int) (n : Nat) : List Int := (List.range n).map fun k => tk ds (a + k) p
theorem tks_mem {ds : List Int} {a n : Nat} {p : Int} (hp : 0 < p) : ∀ x ∈ tks ds a p n, 0 ≤ x ∧ x < p := fun x hx => by
  obtain ⟨k, _, rfl⟩ := List.mem_map.mp hx
  exact ⟨tk_pos _ _ hp, tk_lt _ _ hp⟩
theorem tks_comp {ds : List Int} {a n : Nat} {p : Int} (hp : 0 < p) (hn : n ≤ 1000) {σ : LS} {ws : List Nat} {gm : GM} {me : EM} (hg : ∀ (x : Nat) (b : Nat), ∃ σ2, gm (.int (x : Int)) (wipeL σ ws) [handO ds b] = .ok σ2 [handO ds b] ∧ me σ2 [handO ds b] = .ok (.int (tk ds b p)) [handO ds (b + 1)]) :
    compL [] ws gm tYesM me σ (rngL 0 n) [] [handO ds a] = .ok ((tks ds a p n).map PV.int) [handO ds (a + n)] := by
  obtain ⟨acc, h', e, i1, i2⟩ := comp_go (ck := []) (ws := ws) (gm := gm) (mt := tYesM) (me := me) (σ := σ) (xs := rngL 0 n) (h := [handO ds a]) (fun i acc h => acc = (tks ds a p i).map PV.int ∧ h = [handO ds (a + i)]) ⟨rfl, rfl⟩
    (fun i x acc h hx ⟨e1, e2⟩ => by
      obtain ⟨hi, rfl⟩ := rngL_get hx
      subst e1 e2
      obtain ⟨σ2, g1, g2⟩ := hg i (a + i)
      refine ⟨by simp, σ2, _, true, _, by rw [Int.zero_add]; exact g1, rfl, ?_⟩
      rw [if_pos rfl]
      refine ⟨_, _, g2, by simp [tks]; omega, ?_, rfl⟩
      simp [tks, List.range_succ]) (fun acc h _ => by simp)
  rw [e, i1, i2, rngL_length]
theorem fin_hand {ds : List Int} {a b : Nat} {v : PV} {J : VH} (c : ∀ m, closedV m v) : fin [handO ds a] (.rt v (handO ds b :: J)) = .ok v [handO ds b] :=
  gc_stA (h := [handO ds a]) (j := J) (i := 0) (handO_closed _ _) (c _)
theorem tk_nat (ds : List Int) (a : Nat) {m : Nat} (hm : 0 < m) : ∃ z : Nat, z < m ∧ tk ds a (m : Int) = (z : Int) := by
  have w1 := tk_pos ds a (show (0 : Int) < (m : Int) by omega)
  have w2 := tk_lt ds a (show (0 : Int) < (m : Int) by omega)
  exact ⟨(tk ds a (m : Int)).toNat, by omega, by omega⟩
theorem takeH {ds : List Int} {a : Nat} {many : Int} {J : VH} (hm : 0 < many) : m__law_take [.ref 0, .int many] (handO ds a :: J) = .ok (.int (tk ds a many)) (handO ds (a + 1) :: J) := take_eq rfl hm
theorem fin_handJ {ds : List Int} {a b : Nat} {v : PV} {J K : VH} (c : ∀ m, closedV m v) : fin (handO ds a :: J) (.rt v (handO ds b :: (J ++ K))) = .ok v (handO ds b :: J) :=
  gc_stA (h := handO ds a :: J) (j := K) (i := 0) (handO_closed _ _) (c _)
theorem fin_handS {ds : List Int} {a b : Nat} {v : PV} {J : VH} (c : ∀ m, closedV m v) : fin (handO ds a :: J) (.rt v (handO ds b :: J)) = .ok v (handO ds b :: J) := by
  have := fin_handJ (ds := ds) (a := a) (b := b) (J := J) (K := []) c
  rwa [List.append_nil] at this
end Pm
namespace Pm
open PySem PySem.Spec L2 PyProof.Rows
/-! ### kinds of values -/
theorem is_integer_val {v : PV} (hk : (kd v).isSome) (h : VH) : m_is_integer [v] h = .ok (.bl (isIntV v)) h := by
  unfold m_is_integer
  rw [fnRun_go (σ := [some v]) _ _ _ _ rfl]
  cases v <;> first | (cases hk; done) | (simp only [pmS, isi_int_int, isi_int_bool, isi_bl_int, isi_bl_bool, isi_non_int, isi_str_int, isi_tup_int, isi_lst_int, isIntV, if_true, if_false, Bool.false_eq_true, Bool.not_false, Bool.not_true]; exact gc_same (by simp))
theorem is_number_val {v : PV} (hk : (kd v).isSome) (h : VH) : m_is_number [v] h = .ok (.bl (isNumV v)) h := by
  unfold m_is_number
  rw [fnRun_go (σ := [some v]) _ _ _ _ rfl]
  cases v <;> first | (cases hk; done) | (simp only [pmS, is_integer_val hk, isIntV, isNumV, if_true, if_false, Bool.false_eq_true]; exact gc_same (by simp))
theorem is_below_val {v : PV} (hk : (kd v).isSome) (b : Int) (h : VH) : m_is_below [v, .int b] h = .ok (.bl (isBelowV v b)) h := by
  unfold m_is_below
  rw [fnRun_go (σ := [some v, some (.int b)]) _ _ _ _ rfl]
  cases v with
  | int i =>
    simp only [pmS, is_integer_val (v := .int i) rfl, isIntV, isBelowV, if_true]
    by_cases q : 0 ≤ i
    · simp only [pmS, q, decide_true, if_true, true_and]; exact gc_same (by simp)
    · simp only [pmS, q, decide_false, if_false, false_and, Bool.false_eq_true]; exact gc_same (by simp)
  | _ => first | (cases hk; done) | (simp only [pmS, is_integer_val hk, isIntV, isBelowV, if_true, if_false, Bool.false_eq_true]; exact gc_same (by simp))
end Pm
namespace Pm
open PySem PySem.Spec L2 PyProof.Rows
/-! ### boxes of rows of numbers -/
theorem eMakeB_def (C : Nat) (m : List PV → VH → Res PV) (ms : AM) (σ : LS) (h : VH) : eMake C m ms σ h = (ms σ h).bind fun xs h1 => makeP C m xs h1 := rfl
theorem eMethB_def (C : Nat) (mn : Str) (m : List PV → VH → Res PV) (mo : EM) (ms : AM) (σ : LS) (h : VH) : eMeth C mn m mo ms σ h = (mo σ h).bind (methP C mn ms m σ) := rfl
theorem eFld_def (C : Nat) (f : Str) (m : EM) (σ : LS) (h : VH) : eFld C f m σ h = (m σ h).bind (fldP C f) := rfl
theorem methB_at {C : Nat} {mn : Str} {ms : AM} {m : List PV → VH → Res PV} {σ : LS} {x : PV} {h : VH} {fs : List (Str × PV)} (e : insAt x h = some (C, fs)) (l : fs.lookup mn = none) : methP C mn ms m σ x h = (ms σ h).bind fun xs h2 => m (x :: xs) h2 := by
  unfold methP; rw [e]; exact if_pos ⟨rfl, l⟩
def boxF (L : List PV) (k : Nat) : List (Str × PV) := [("table", .tup L), ("asked", .int (k : Int))]
def boxO (L : List PV) (k : Nat) : PO := .ins 6 (boxF L k)
theorem boxO_cl {L : List PV} {k : Nat} (cL : ∀ j, closedVs j L) (j : Nat) : closedO j (boxO L k) := by
  simp only [boxO, boxF, closedO]
  simp [closedF, cL]
theorem sFldAugB_def (C : Nat) (f : Str) (mo mv : EM) (σ : LS) (h : VH) : sFldAugM C f mo mv σ h = (mo σ h).then σ fun x h1 => match celI x h1 with
  | some (i, D, fs) => if D = C then (match fs.lookup f with
    | some v => (mv σ h1).then σ fun y h2 => match celI (.ref i) h2 with
      | some (_, D2, fs2) => if D2 = C ∧ fs2.length < 1000 then (match v, y with
        | .int a, .int b => .nx σ (h2.set i (.ins C (putFP f (.int (a + b)) fs2)))
        | _, _ => .bad) else .bad
      | none => .bad
    | none => .bad) else .bad
  | none => .bad := rfl
/-- a box lies at i -/
structure At (H : VH) (i : Nat) (L : List PV) (k : Nat) : Prop where
  at_ : H[i]? = some (boxO L k)
  cl : ∀ j, closedVs j L
section
variable {H : VH} {i : Nat} {L : List PV} {k : Nat}
theorem At.ins (X : At H i L k) : insAt (.ref i) H = some (6, boxF L k) := by
  have := X.at_
  simp [insAt, this, boxO]
theorem At.cel (X : At H i L k) : celI (.ref i) H = some (i, 6, boxF L k) := celI_ref X.at_
theorem At.table (X : At H i L k) : fldP 6 "table" (.ref i) H = .ok (.tup L) H := by
  unfold fldP; rw [X.ins]; rfl
theorem At.asked (X : At H i L k) : fldP 6 "asked" (.ref i) H = .ok (.int (k : Int)) H := by
  unfold fldP; rw [X.ins]; rfl
theorem At.up (X : At H i L k) : At (H.set i (boxO L (k + 1))) i L (k + 1) := ⟨by rw [List.getElem?_set_self (List.getElem?_eq_some_iff.mp X.at_).1], X.cl⟩
theorem box_ask (X : At H i L k) {x : Nat} {v : PV} (hx : L[x]? = some v) : m_Box_ask [.ref i, .int (x : Int)] H = .ok v (H.set i (boxO L (k + 1))) := by
  unfold m_Box_ask
  rw [fnRun_go (σ := [some (.ref i), some (.int (x : Int))]) _ _ _ _ rfl]
  have hl : x < L.length := (List.getElem?_eq_some_iff.mp hx).1
  have b : isBelowV (.int (x : Int)) (L.length : Int) = true := decide_eq_true (by omega)
  have cv : ∀ j, closedV j v := fun j => closedVs_iff.mp (X.cl j) v (List.mem_of_getElem? hx)
  have ix : ∀ h, ixP (.tup L) (.int (x : Int)) h = .ok v h := fun h => ixP_seq (seqOf_tup _ _) (by rw [atI_nat]; exact hx)
  have pt : H.set i (.ins 6 (putFP "asked" (.int ((k : Int) + 1)) (boxF L k))) = H.set i (boxO L (k + 1)) := rfl
  simp only [pmS, pmT, pmU, pmV, if_true, if_false, reduceCtorEq, Bool.false_eq_true, decide_true, decide_false, eFld_def, X.table, is_below_val (v := .int (x : Int)) rfl, b, Bool.not_true, sFldAugB_def, X.cel, show (boxF L k).lookup ("asked" : Str) = some (.int (k : Int)) from rfl, true_and, show (((boxF L k).length < 1000) = True) from eq_true (by show 2 < 1000; omega), pt, X.up.table, ix]
  exact gc_st (h := H) (i := i) (boxO_cl X.cl _) (cv _)
theorem box_ask_x (X : At H i L k) {x : PV} (hk : (kd x).isSome) (cx : ∀ j, closedV j x) (bx : isBelowV x (L.length : Int) = false) : m_Box_ask [.ref i, x] H = .exc ⟨1, [("value", x)]⟩ H := by
  unfold m_Box_ask
  rw [fnRun_go (σ := [some (.ref i), some x]) _ _ _ _ rfl]
  simp only [pmS, pmT, pmU, pmV, if_true, if_false, reduceCtorEq, Bool.false_eq_true, decide_true, decide_false, eFld_def, X.table, is_below_val hk, bx, Bool.not_false]
  exact gcX_same (by simp [cx])
theorem box_asks (X : At H i L k) : m_Box_asks [.ref i] H = .ok (.int (k : Int)) H := by
  unfold m_Box_asks
  rw [fnRun_go (σ := [some (.ref i)]) _ _ _ _ rfl]
  simp only [pmS, pmT, pmU, pmV, if_true, if_false, reduceCtorEq, Bool.false_eq_true, decide_true, decide_false, eFld_def, X.asked]
  exact gc_same (by simp)
theorem box_len (X : At H i L k) : m_Box_ddlendd [.ref i] H = .ok (.int (L.length : Int)) H := by
  unfold m_Box_ddlendd
  rw [fnRun_go (σ := [some (.ref i)]) _ _ _ _ rfl]
  simp only [pmS, pmT, pmU, pmV, if_true, if_false, reduceCtorEq, Bool.false_eq_true, decide_true, decide_false, eFld_def, X.table]
  exact gc_same (by simp)
end
/-- the row handed in, however it lies -/
structure Hnd (tv : PV) (H : VH) (L : List Int) : Prop where
  is2 : isiP tab [tv, .tup [.ty "tuple", .ty "list"]] H = .ok (.bl true) H
  ln : lenP tv H = .ok (.int (L.length : Int)) H
  sq : ∃ ck, srcSeq tv H = .ok ⟨L.map PV.int, ck⟩ H ∧ ckOk ck H
  tp : tupleP tv H = .ok (.tup (L.map PV.int)) H
theorem ints_cl (L : List Int) (j : Nat) : closedVs j (L.map PV.int) := by
  rw [closedVs_iff]; intro x hx; obtain ⟨i, _, rfl⟩ := List.mem_map.mp hx; simp
theorem box_init {L : List Int} {h : VH} {tv : PV} (X : Hnd tv (h ++ [.ins 6 []]) L) (l1 : 1 ≤ L.length) (l2 : L.length ≤ 128) (L0 : ∀ i ∈ L, 0 ≤ i) : m_Box_ddinitdd [.ref h.length, tv] (h ++ [.ins 6 []]) = .ok .non (h ++ [boxO (L.map PV.int) 0]) := by
  unfold m_Box_ddinitdd
  rw [fnRun_go (σ := [some (.ref h.length), some tv, none]) _ _ _ _ rfl]
  have ce : ∀ fs, celI (.ref h.length) (h ++ [.ins 6 fs]) = some (h.length, 6, fs) := fun fs => celI_ref (by simp)
  have c1 : (1 : Int) ≤ (L.length : Int) := by omega
  have c2 : (L.length : Int) ≤ 128 := by omega
  obtain ⟨ck, sq, hck⟩ := X.sq
  simp only [pmS, pmT, pmU, pmV, if_true, if_false, reduceCtorEq, Bool.false_eq_true, decide_true, decide_false, X.is2, X.ln, c1, c2, Bool.not_true, sq]
  generalize hE : compL _ _ _ _ _ _ _ _ _ = E
  obtain ⟨acc, h', rfl, rfl, rfl⟩ := comp_goE hE (fun i acc h' => acc = (List.replicate i true).map PV.bl ∧ h' = h ++ [.ins 6 []]) ⟨rfl, rfl⟩
    (fun i x acc h' hx ⟨e1, e2⟩ => by
      subst e1 e2
      obtain ⟨hi, rfl⟩ := ints_get hx
      have pos : (0 : Int) ≤ L.getD i 0 := L0 _ (by rw [List.getD_eq_getElem?_getD, List.getElem?_eq_getElem hi]; exact List.getElem_mem hi)
      refine ⟨hck, _, _, true, _, rfl, rfl, ?_⟩
      rw [if_pos rfl]
      refine ⟨.bl true, _, by simp only [pmS, pmT, pmU, pmV, if_true, if_false, reduceCtorEq, Bool.false_eq_true, decide_true, decide_false, wipeL, is_number_val (v := .int (L.getD i 0)) rfl, isNumV, pos], by simp; omega, by rw [List.replicate_succ', List.map_append]; rfl, rfl⟩) (fun acc h' ⟨_, e2⟩ => by rw [e2]; exact hck)
  have al : ∀ h, allP (.lst ((List.replicate (L.map PV.int).length true).map PV.bl)) h = .ok (.bl true) h := fun h => by rw [allP_bls]; simp
  simp only [pmS, pmT, pmU, pmV, if_true, if_false, reduceCtorEq, Bool.false_eq_true, decide_true, decide_false, al, Bool.not_true, X.tp, sFldM_def, ce, set_end, putFP, List.length_cons, List.length_nil, true_and, show ((0 < 1000) = True) from eq_true (by omega), show ((0 + 1 < 1000) = True) from eq_true (by omega), show (("table" : Str) = "asked") = False from eq_false (by decide)]
  have := gc_st (h := h ++ [.ins 6 []]) (i := h.length) (o := boxO (L.map PV.int) 0) (v := .non) (boxO_cl (ints_cl L) _) (by simp)
  rw [set_end] at this
  exact this
theorem box_make {L : List Int} {h : VH} {tv : PV} (X : Hnd tv (h ++ [.ins 6 []]) L) (l1 : 1 ≤ L.length) (l2 : L.length ≤ 128) (L0 : ∀ i ∈ L, 0 ≤ i) : makeP 6 m_Box_ddinitdd [tv] h = .ok (.ref h.length) (h ++ [boxO (L.map PV.int) 0]) := by
  unfold makeP
  rw [box_init X l1 l2 L0]; rfl
theorem Hnd.tup (L : List Int) (H : VH) : Hnd (.tup (L.map PV.int)) H L := ⟨rfl, by simp, ⟨[], rfl, by simp⟩, rfl⟩
theorem Hnd.lst (L : List Int) (H : VH) : Hnd (.lst (L.map PV.int)) H L := ⟨rfl, by simp, ⟨[], rfl, by simp⟩, rfl⟩
/-! ### what is no row -/
def tbX (xs : List PV) : Bool := decide (1 ≤ xs.length ∧ xs.length ≤ 128) && xs.all isNumV
def isTblV : PV → Bool
  | .tup xs => tbX xs
  | .lst xs => tbX xs
  | _ => false
def kdT : PV → Prop
  | .tup xs => ∀ x ∈ xs, (kd x).isSome
  | .lst xs => ∀ x ∈ xs, (kd x).isSome
  | v => (kd v).isSome
theorem seq_bad {tv : PV} {xs : List PV} {h : VH} (is2 : ∀ h, isiP tab [tv, .tup [.ty "tuple", .ty "list"]] h = .ok (.bl true) h) (ln : ∀ h, lenP tv h = .ok (.int (xs.length : Int)) h) (sq : ∀ h, srcSeq tv h = .ok ⟨xs, []⟩ h) (hk : ∀ x ∈ xs, (kd x).isSome) (hc : ∀ j, closedV j tv) (hb : tbX xs = false) :
    m_Box_ddinitdd [.ref h.length, tv] (h ++ [.ins 6 []]) = .exc ⟨4, [("value", tv)]⟩ (h ++ [.ins 6 []]) := by
  unfold m_Box_ddinitdd
  rw [fnRun_go (σ := [some (.ref h.length), some tv, none]) _ _ _ _ rfl]
  by_cases q1 : (1 : Int) ≤ (xs.length : Int)
  · by_cases q2 : (xs.length : Int) ≤ 128
    · simp only [pmS, pmT, pmU, pmV, if_true, if_false, reduceCtorEq, Bool.false_eq_true, decide_true, decide_false, is2, ln, q1, q2, Bool.not_true, sq]
      generalize hE : compL _ _ _ _ _ _ _ _ _ = E
      obtain ⟨acc, h', rfl, rfl, rfl⟩ := comp_goE hE (fun i acc h' => acc = (xs.take i).map (fun x => PV.bl (isNumV x)) ∧ h' = h ++ [.ins 6 []]) ⟨rfl, rfl⟩
        (fun i x acc h' hx ⟨e1, e2⟩ => by
          subst e1 e2
          refine ⟨by simp, _, _, true, _, rfl, rfl, ?_⟩
          rw [if_pos rfl]
          have hi := (List.getElem?_eq_some_iff.mp hx).1
          refine ⟨.bl (isNumV x), _, by simp only [pmS, pmT, pmU, pmV, if_true, if_false, reduceCtorEq, Bool.false_eq_true, decide_true, decide_false, wipeL, is_number_val (hk x (List.mem_of_getElem? hx))], by simp; omega, ?_, rfl⟩
          rw [List.take_add_one, hx]; simp) (fun acc h _ => by simp)
      rw [List.take_length]
      have al : ∀ h, allP (.lst (xs.map fun x => PV.bl (isNumV x))) h = .ok (.bl (xs.all isNumV)) h := fun h => by
        have : xs.map (fun x => PV.bl (isNumV x)) = (xs.map isNumV).map PV.bl := by rw [List.map_map]; rfl
        rw [this, allP_bls, List.all_map]; rfl
      have ab : xs.all isNumV = false := by
        have : 1 ≤ xs.length ∧ xs.length ≤ 128 := by omega
        simpa [tbX, this] using hb
      simp only [pmS, pmT, pmU, pmV, if_true, if_false, reduceCtorEq, Bool.false_eq_true, decide_true, decide_false, al, ab, Bool.not_false]
      exact gcX_same (by simp [hc])
    · simp only [pmS, pmT, pmU, pmV, if_true, if_false, reduceCtorEq, Bool.false_eq_true, decide_true, decide_false, is2, ln, q1, q2, Bool.not_true, Bool.not_false]
      exact gcX_same (by simp [hc])
  · simp only [pmS, pmT, pmU, pmV, if_true, if_false, reduceCtorEq, Bool.false_eq_true, decide_true, decide_false, is2, ln, q1, Bool.not_true, Bool.not_false]
    exact gcX_same (by simp [hc])
theorem make_bad {v : PV} (hk : kdT v) (hc : ∀ j, closedV j v) (hb : isTblV v = false) (h : VH) : makeP 6 m_Box_ddinitdd [v] h = .exc ⟨4, [("value", v)]⟩ (h ++ [.ins 6 []]) := by
  have e : m_Box_ddinitdd [.ref h.length, v] (h ++ [.ins 6 []]) = .exc ⟨4, [("value", v)]⟩ (h ++ [.ins 6 []]) := by
    have no : (∀ h, isiP tab [v, .tup [.ty "tuple", .ty "list"]] h = .ok (.bl false) h) → m_Box_ddinitdd [.ref h.length, v] (h ++ [.ins 6 []]) = .exc ⟨4, [("value", v)]⟩ (h ++ [.ins 6 []]) := fun q => by
      unfold m_Box_ddinitdd
      rw [fnRun_go (σ := [some (.ref h.length), some v, none]) _ _ _ _ rfl]
      simp only [pmS, pmT, pmU, pmV, if_true, if_false, reduceCtorEq, Bool.false_eq_true, decide_true, decide_false, q, Bool.not_false]
      exact gcX_same (by simp [hc])
    cases v with
    | tup xs => exact seq_bad (fun _ => rfl) (fun _ => by simp) (fun _ => rfl) hk hc hb
    | lst xs => exact seq_bad (fun _ => rfl) (fun _ => by simp) (fun _ => rfl) hk hc hb
    | non => exact no fun _ => rfl
    | bl z => exact no fun _ => rfl
    | int z => exact no fun _ => rfl
    | str z => exact no fun _ => rfl
    | _ => cases hk
  unfold makeP
  rw [e]; rfl
end Pm
namespace Pm
open PySem PySem.Spec L2 PyProof.Rows
theorem refusalK_number {v0 v1 x : PV} {H K H1 : VH} (eH : H1 = H ++ K) (hH : cleanH H1) (hb : (sIf (tVal (eBin (isN false) (eVar 0) (eC .non))) (sDrop (eMake 6 m_Box_ddinitdd (aCons (eVar 1) aNil))) (sDrop (eMeth 6 "ask" m_Box_ask (eVar 0) (aCons (eVar 1) aNil)))) [some v0, some v1, none, none] H = .xc ⟨1, [("value", x)]⟩ [some v0, some v1, none, none] H1) {s : Str} (hs : ∀ h, reprP x h = .ok (.str s) h) : m__law_refusal [v0, v1] H = .ok (.lst [.tup [.str "number", .str s]]) H := by
  unfold m__law_refusal
  rw [fnRun_go (σ := [some v0, some v1, none, none]) _ _ _ _ rfl]
  rw [sCons_def, sTry_xc (x := ⟨1, [("value", x)]⟩) (σ' := [some v0, some v1, none, none]) (h' := H1) hb rfl]
  have at1 : ∀ (L : List PV) (y : PV), L.length < 16777216 → appendP (.ref H1.length) [y] (H1 ++ [.lst L]) = .ok .non (H1 ++ [.lst (L ++ [y])]) := fun L y hl => append_end hl
  have lm : ∀ (f : PV → List PV → VH → Res PV) (ms : AM) (σ : LS) (L : List PV), lstMt (.ref H1.length) ms σ (H1 ++ [.lst L]) f = (ms σ (H1 ++ [.lst L])).bind fun ys h1 => f (.ref H1.length) ys h1 := fun f ms σ L => lstMt_ok (lstOf_ref (xs := L) (by simp))
  have fz : ∀ L : List PV, frzP (.ref H1.length) (H1 ++ [.lst L]) = .ok (.lst L) (H1 ++ [.dead]) := fun L => by rw [frzP_lst (xs := L) (by simp)]; simp
  have i0 : ∀ s3 h, eIsx xtab ⟨1, [("value", x)]⟩ 2 (.cls 1) [some v0, some v1, some .exn, s3] h = .ok (.bl true) h := fun _ _ => rfl
  have i1 : ∀ s3 h, eIsx xtab ⟨1, [("value", x)]⟩ 2 (.cls 4) [some v0, some v1, some .exn, s3] h = .ok (.bl false) h := fun _ _ => rfl
  have i2 : ∀ s3 h, eIsx xtab ⟨1, [("value", x)]⟩ 2 (.cls 2) [some v0, some v1, some .exn, s3] h = .ok (.bl false) h := fun _ _ => rfl
  have i3 : ∀ s3 h, eIsx xtab ⟨1, [("value", x)]⟩ 2 (.cls 3) [some v0, some v1, some .exn, s3] h = .ok (.bl false) h := fun _ _ => rfl
  have i4 : ∀ s3 h, eIsx xtab ⟨1, [("value", x)]⟩ 2 (.cls 5) [some v0, some v1, some .exn, s3] h = .ok (.bl false) h := fun _ _ => rfl
  have i5 : ∀ s3 h, eIsx xtab ⟨1, [("value", x)]⟩ 2 (.ty "ValueError") [some v0, some v1, some .exn, s3] h = .ok (.bl true) h := fun _ _ => rfl
  have xv : ∀ s3 h, eXf xf_value ⟨1, [("value", x)]⟩ 2 "value" [some v0, some v1, some .exn, s3] h = .ok x h := fun _ _ => rfl
  simp only [pmS, pmT, pmU, pmV, if_true, if_false, reduceCtorEq, Bool.false_eq_true, decide_true, decide_false, seti_some, i0, i1, i2, i3, i4, i5, xv, lm, hs, at1 _ _ (show List.length ([] : List PV) < 16777216 by decide), fz, List.nil_append]
  rw [unb_rt (by simp) (by intro o ho; rcases List.mem_append.mp ho with q | q; exact hH o q; rw [List.mem_singleton.mp q]; exact trivial)]
  simp only [pmS, pmT, pmU, pmV, if_true, if_false, reduceCtorEq, Bool.false_eq_true, decide_true, decide_false]
  rw [eH, List.append_assoc]
  exact gc_app (by simp)
theorem refusalH_number {v0 v1 x : PV} {H : VH} (hH : cleanH H) (hb : (sIf (tVal (eBin (isN false) (eVar 0) (eC .non))) (sDrop (eMake 6 m_Box_ddinitdd (aCons (eVar 1) aNil))) (sDrop (eMeth 6 "ask" m_Box_ask (eVar 0) (aCons (eVar 1) aNil)))) [some v0, some v1, none, none] H = .xc ⟨1, [("value", x)]⟩ [some v0, some v1, none, none] H) {s : Str} (hs : ∀ h, reprP x h = .ok (.str s) h) : m__law_refusal [v0, v1] H = .ok (.lst [.tup [.str "number", .str s]]) H :=
  refusalK_number (K := []) (List.append_nil H).symm hH hb hs
theorem refusal_number {v0 v1 x : PV} {ds : List Int} {a : Nat} (hb : (sIf (tVal (eBin (isN false) (eVar 0) (eC .non))) (sDrop (eMake 6 m_Box_ddinitdd (aCons (eVar 1) aNil))) (sDrop (eMeth 6 "ask" m_Box_ask (eVar 0) (aCons (eVar 1) aNil)))) [some v0, some v1, none, none] [handO ds a] = .xc ⟨1, [("value", x)]⟩ [some v0, some v1, none, none] [handO ds a]) {s : Str} (hs : ∀ h, reprP x h = .ok (.str s) h) : m__law_refusal [v0, v1] [handO ds a] = .ok (.lst [.tup [.str "number", .str s]]) [handO ds a] :=
  refusalH_number (by intro o ho; rw [List.mem_singleton.mp ho]; exact (show cleanVs _ by simp)) hb hs
theorem refusalK_table {v0 v1 x : PV} {H K H1 : VH} (eH : H1 = H ++ K) (hH : cleanH H1) (hb : (sIf (tVal (eBin (isN false) (eVar 0) (eC .non))) (sDrop (eMake 6 m_Box_ddinitdd (aCons (eVar 1) aNil))) (sDrop (eMeth 6 "ask" m_Box_ask (eVar 0) (aCons (eVar 1) aNil)))) [some v0, some v1, none, none] H = .xc ⟨4, [("value", x)]⟩ [some v0, some v1, none, none] H1) {s : Str} (hs : ∀ h, reprP x h = .ok (.str s) h) : m__law_refusal [v0, v1] H = .ok (.lst [.tup [.str "table", .str s]]) H := by
  unfold m__law_refusal
  rw [fnRun_go (σ := [some v0, some v1, none, none]) _ _ _ _ rfl]
  rw [sCons_def, sTry_xc (x := ⟨4, [("value", x)]⟩) (σ' := [some v0, some v1, none, none]) (h' := H1) hb rfl]
  have at1 : ∀ (L : List PV) (y : PV), L.length < 16777216 → appendP (.ref H1.length) [y] (H1 ++ [.lst L]) = .ok .non (H1 ++ [.lst (L ++ [y])]) := fun L y hl => append_end hl
  have lm : ∀ (f : PV → List PV → VH → Res PV) (ms : AM) (σ : LS) (L : List PV), lstMt (.ref H1.length) ms σ (H1 ++ [.lst L]) f = (ms σ (H1 ++ [.lst L])).bind fun ys h1 => f (.ref H1.length) ys h1 := fun f ms σ L => lstMt_ok (lstOf_ref (xs := L) (by simp))
  have fz : ∀ L : List PV, frzP (.ref H1.length) (H1 ++ [.lst L]) = .ok (.lst L) (H1 ++ [.dead]) := fun L => by rw [frzP_lst (xs := L) (by simp)]; simp
  have i0 : ∀ s3 h, eIsx xtab ⟨4, [("value", x)]⟩ 2 (.cls 1) [some v0, some v1, some .exn, s3] h = .ok (.bl false) h := fun _ _ => rfl
  have i1 : ∀ s3 h, eIsx xtab ⟨4, [("value", x)]⟩ 2 (.cls 4) [some v0, some v1, some .exn, s3] h = .ok (.bl true) h := fun _ _ => rfl
  have i2 : ∀ s3 h, eIsx xtab ⟨4, [("value", x)]⟩ 2 (.cls 2) [some v0, some v1, some .exn, s3] h = .ok (.bl false) h := fun _ _ => rfl
  have i3 : ∀ s3 h, eIsx xtab ⟨4, [("value", x)]⟩ 2 (.cls 3) [some v0, some v1, some .exn, s3] h = .ok (.bl false) h := fun _ _ => rfl
  have i4 : ∀ s3 h, eIsx xtab ⟨4, [("value", x)]⟩ 2 (.cls 5) [some v0, some v1, some .exn, s3] h = .ok (.bl false) h := fun _ _ => rfl
  have i5 : ∀ s3 h, eIsx xtab ⟨4, [("value", x)]⟩ 2 (.ty "ValueError") [some v0, some v1, some .exn, s3] h = .ok (.bl true) h := fun _ _ => rfl
  have xv : ∀ s3 h, eXf xf_value ⟨4, [("value", x)]⟩ 2 "value" [some v0, some v1, some .exn, s3] h = .ok x h := fun _ _ => rfl
  simp only [pmS, pmT, pmU, pmV, if_true, if_false, reduceCtorEq, Bool.false_eq_true, decide_true, decide_false, seti_some, i0, i1, i2, i3, i4, i5, xv, lm, hs, at1 _ _ (show List.length ([] : List PV) < 16777216 by decide), fz, List.nil_append]
  rw [unb_rt (by simp) (by intro o ho; rcases List.mem_append.mp ho with q | q; exact hH o q; rw [List.mem_singleton.mp q]; exact trivial)]
  simp only [pmS, pmT, pmU, pmV, if_true, if_false, reduceCtorEq, Bool.false_eq_true, decide_true, decide_false]
  rw [eH, List.append_assoc]
  exact gc_app (by simp)
theorem refusalH_table {v0 v1 x : PV} {H : VH} (hH : cleanH H) (hb : (sIf (tVal (eBin (isN false) (eVar 0) (eC .non))) (sDrop (eMake 6 m_Box_ddinitdd (aCons (eVar 1) aNil))) (sDrop (eMeth 6 "ask" m_Box_ask (eVar 0) (aCons (eVar 1) aNil)))) [some v0, some v1, none, none] H = .xc ⟨4, [("value", x)]⟩ [some v0, some v1, none, none] H) {s : Str} (hs : ∀ h, reprP x h = .ok (.str s) h) : m__law_refusal [v0, v1] H = .ok (.lst [.tup [.str "table", .str s]]) H :=
  refusalK_table (K := []) (List.append_nil H).symm hH hb hs
theorem refusal_table {v0 v1 x : PV} {ds : List Int} {a : Nat} (hb : (sIf (tVal (eBin (isN false) (eVar 0) (eC .non))) (sDrop (eMake 6 m_Box_ddinitdd (aCons (eVar 1) aNil))) (sDrop (eMeth 6 "ask" m_Box_ask (eVar 0) (aCons (eVar 1) aNil)))) [some v0, some v1, none, none] [handO ds a] = .xc ⟨4, [("value", x)]⟩ [some v0, some v1, none, none] [handO ds a]) {s : Str} (hs : ∀ h, reprP x h = .ok (.str s) h) : m__law_refusal [v0, v1] [handO ds a] = .ok (.lst [.tup [.str "table", .str s]]) [handO ds a] :=
  refusalH_table (by intro o ho; rw [List.mem_singleton.mp ho]; exact (show cleanVs _ by simp)) hb hs
end Pm
namespace Pm
open PySem PySem.Spec L2 PyProof.Rows
theorem e1s (s : Str) : neP (.str s) (.str s) = fun h => .ok (.bl false) h := by funext h; simp
theorem e1q (s : Str) : eqP (.str s) (.str s) = fun h => .ok (.bl true) h := by funext h; simp
theorem clean_hand (ds : List Int) (a : Nat) : cleanO (handO ds a) := show cleanVs _ by simp
theorem ints_clean (L : List Int) : cleanVs (L.map PV.int) := by
  rw [cleanVs_iff]; intro x hx; obtain ⟨i, _, rfl⟩ := List.mem_map.mp hx; simp
theorem boxO_clean {L : List Int} {k : Nat} : cleanO (boxO (L.map PV.int) k) := by
  simp only [boxO, boxF, cleanO]
  simp [cleanF, ints_clean]
theorem told_eq {x s : Str} (hx : PyData.strOk x = true) (hs : PyData.strOk s = true) (h : VH) : eqP (.lst [.tup [.str x, .str s]]) (.lst [.tup [.str x, .str s]]) h = .ok (.bl true) h := by
  rw [eq_lst]
  have e : dat h (.lst [.tup [.str x, .str s]]) = some (.list [.tuple [.str x, .str s]]) := by simp [allD]
  exact eqD_same e (by simp [PyData.canLay0, PyData.canLayAll0, hx, hs])
theorem refused_ok {v : PV} {H : VH} {w : Nat} (cl : cleanH (H ++ [.ins 6 []])) (hk : kdT v) (pv : Pv 12 w v) (hw : w ≤ 16777216) (hb : isTblV v = false) : m__law_refused [v] H = .ok (.bl true) H := by
  obtain ⟨s, hs, rs⟩ := pv.rep hw
  have nn : ∀ h, isN false .non .non h = .ok (.bl true) h := fun _ => rfl
  have q := refusalK_table (v0 := .non) (v1 := v) (x := v) (H := H) (K := [.ins 6 []]) rfl cl (by simp only [pmS, pmT, pmU, pmV, if_true, if_false, reduceCtorEq, Bool.false_eq_true, decide_true, decide_false, nn, eMakeB_def, make_bad hk pv.cl hb]) rs
  unfold m__law_refused
  rw [fnRun_go (σ := [some v]) _ _ _ _ rfl]
  simp only [pmS, pmT, pmU, pmV, if_true, if_false, reduceCtorEq, Bool.false_eq_true, decide_true, decide_false, q, rs, told_eq (strOk_of _) hs]
  exact gc_same (by simp)
section
variable {ds : List Int} {a : Nat}
theorem p6 (h : VH) : powP (.int 10) (.int 6) h = .ok (.int 1000000) h := (int2_ok (gp := fun i j => .int (i ^ j.toNat)) (⟨by decide, by decide, by decide⟩ : CPow 10 6)).trans rfl
theorem p24 (h : VH) : powP (.int 10) (.int 24) h = .ok (.int 1000000000000000000000000) h := (int2_ok (gp := fun i j => .int (i ^ j.toNat)) (⟨by decide, by decide, by decide⟩ : CPow 10 24)).trans rfl
theorem p29 (h : VH) : powP (.int 10) (.int 29) h = .ok (.int 100000000000000000000000000000) h := (int2_ok (gp := fun i j => .int (i ^ j.toNat)) (⟨by decide, by decide, by decide⟩ : CPow 10 29)).trans rfl
def bigN : Int := 1000000000000000000000000000000
theorem number_ok : ∃ v b, 0 ≤ v ∧ v < bigN ∧ m__law_number [.ref 0] [handO ds a] = .ok (.int v) [handO ds b] := by
  unfold m__law_number
  rw [fnRun_go (σ := [some (.ref 0), none]) _ _ _ _ rfl]
  obtain ⟨k, hk, ek⟩ := tk_nat ds a (m := 4) (by omega)
  have t4 : m__law_take [.ref 0, .int 4] [handO ds a] = .ok (.int (k : Int)) [handO ds (a + 1)] := by
    have ek : tk ds a 4 = (k : Int) := ek
    rw [← ek]; exact take0 (by omega)
  have tm : ∀ b, m__law_take [.ref 0, .int 1000000] [handO ds b] = .ok (.int (tk ds b 1000000)) [handO ds (b + 1)] := fun b => take0 (by omega)
  have tp : ∀ b, 0 ≤ tk ds b 1000000 ∧ tk ds b 1000000 < 1000000 := fun b => ⟨tk_pos ds b (by omega), tk_lt ds b (by omega)⟩
  by_cases q : (k : Int) < 3
  · have t3 : m__law_take [.ref 0, .int 3] [handO ds (a + 1)] = .ok (.int (tk ds (a + 1) 3)) [handO ds (a + 1 + 1)] := take0 (by omega)
    have t100 : m__law_take [.ref 0, .int 100] [handO ds (a + 1 + 1)] = .ok (.int (tk ds (a + 1 + 1) 100)) [handO ds (a + 1 + 1 + 1)] := take0 (by omega)
    obtain ⟨v, hv, ev⟩ := pick_lst (xs := [.int (tk ds (a + 1) 3), .int (tk ds (a + 1 + 1) 100), .int (tk ds (a + 1 + 1 + 1) 1000000)]) (t := (k : Int)) (by omega) (by simp; omega)
    obtain ⟨z, rfl, z0, z1⟩ : ∃ z : Int, v = .int z ∧ 0 ≤ z ∧ z < bigN := by
      have x1 := tk_pos ds (a + 1) (show (0 : Int) < 3 by omega); have x2 := tk_lt ds (a + 1) (show (0 : Int) < 3 by omega)
      have y1 := tk_pos ds (a + 1 + 1) (show (0 : Int) < 100 by omega); have y2 := tk_lt ds (a + 1 + 1) (show (0 : Int) < 100 by omega)
      have w1 := tp (a + 1 + 1 + 1)
      simp only [List.mem_cons, List.not_mem_nil, or_false] at hv
      unfold bigN
      rcases hv with rfl | rfl | rfl
      · exact ⟨_, rfl, by omega, by omega⟩
      · exact ⟨_, rfl, by omega, by omega⟩
      · exact ⟨_, rfl, by omega, by omega⟩
    refine ⟨z, a + 1 + 1 + 1 + 1, z0, z1, ?_⟩
    simp only [pmS, pmT, pmU, pmV, if_true, if_false, reduceCtorEq, Bool.false_eq_true, decide_true, decide_false, t4, q, t3, t100, p6, tm, ev]
    exact fin_hand (by simp)
  · have w1 := tp (a + 1)
    have w2 := tp (a + 1 + 1)
    refine ⟨tk ds (a + 1) 1000000 * 1000000000000000000000000 + tk ds (a + 1 + 1) 1000000, a + 1 + 1 + 1, by omega, by unfold bigN; omega, ?_⟩
    have ml : ∀ h, mulP false (.int (tk ds (a + 1) 1000000)) (.int 1000000000000000000000000) h = .ok (.int (tk ds (a + 1) 1000000 * 1000000000000000000000000)) h := fun h => mulP_l (by omega) (by omega)
    simp only [pmS, pmT, pmU, pmV, if_true, if_false, reduceCtorEq, Bool.false_eq_true, decide_true, decide_false, t4, q, p6, tm, p24, ml]
    exact fin_hand (by simp)
/-! ### the heap -/
abbrev Hx (ds : List Int) (a : Nat) (M L : List Int) (A B : Nat) : VH := [handO ds a, .lst (M.map PV.int), boxO (L.map PV.int) A, boxO (L.map PV.int) B]
theorem at2 (M L : List Int) (A B : Nat) : At (Hx ds a M L A B) 2 (L.map PV.int) A := ⟨rfl, ints_cl L⟩
theorem at3 (M L : List Int) (A B : Nat) : At (Hx ds a M L A B) 3 (L.map PV.int) B := ⟨rfl, ints_cl L⟩
theorem hx_clean (M L : List Int) (A B : Nat) : cleanH (Hx ds a M L A B) := fun o ho => by
  simp only [List.mem_cons, List.not_mem_nil, or_false] at ho
  rcases ho with rfl | rfl | rfl | rfl
  · exact clean_hand _ _
  · exact ints_clean M
  · exact boxO_clean
  · exact boxO_clean
theorem hx_clean2 (M L : List Int) (A B : Nat) : cleanH (Hx ds a M L A B ++ [.ins 6 []]) := fun o ho => by
  rcases List.mem_append.mp ho with ho | ho
  · exact hx_clean M L A B o ho
  · rw [List.mem_singleton.mp ho]; simp [cleanO, cleanF]
def wrL (n : Nat) (x : Nat) : List PV := [.int (n : Int), .int (-1), .bl true, .bl false, .non, .str "0", .tup [.int 0], .lst [.int 0], .int ((n : Int) + (x : Int)), .int 100000000000000000000000000000]
theorem wr_bad {n x : Nat} (hn : n ≤ 128) (hx : x < n) : ∀ v ∈ wrL n x, Pv 12 300 v ∧ isBelowV v (n : Int) = false := by
  have p : (2 : Nat) ^ 10 ≤ 2 ^ 100 := Nat.pow_le_pow_right (by omega) (by omega)
  have z : Pv 11 103 (.int 0) := Pv.int (by decide) (by omega)
  unfold wrL
  simp only [List.forall_mem_cons]
  exact ⟨⟨Pv.int (by omega) (by omega), by simp [isBelowV]⟩, ⟨Pv.int (by decide) (by omega), by simp [isBelowV]⟩, ⟨Pv.bl (by omega), rfl⟩, ⟨Pv.bl (by omega), rfl⟩, ⟨Pv.non (by omega), rfl⟩, ⟨Pv.str (by decide +kernel) (by decide), rfl⟩, ⟨Pv.tup (w := 103) (fun x hx => by rw [List.mem_singleton.mp hx]; exact z) (by simp), rfl⟩, ⟨Pv.lst (w := 103) (fun x hx => by rw [List.mem_singleton.mp hx]; exact z) (by simp), rfl⟩, ⟨Pv.int (by omega) (by omega), by simp only [isBelowV, decide_eq_false_iff_not]; omega⟩, ⟨Pv.int (by decide) (by omega), by simp only [isBelowV, decide_eq_false_iff_not]; omega⟩, fun x hx => absurd hx List.not_mem_nil⟩
def b1L : List PV := [.int (-1), .bl true, .bl false, .non, .str "1", .tup [.int 1], .lst [.int 1]]
theorem b1_bad : ∀ v ∈ b1L, Pv 11 300 v ∧ isNumV v = false := by
  have z : Pv 10 103 (.int 1) := Pv.int (by decide) (by omega)
  unfold b1L
  simp only [List.forall_mem_cons]
  exact ⟨⟨Pv.int (by decide) (by omega), by simp [isNumV]⟩, ⟨Pv.bl (by omega), rfl⟩, ⟨Pv.bl (by omega), rfl⟩, ⟨Pv.non (by omega), rfl⟩, ⟨Pv.str (by decide +kernel) (by decide), rfl⟩, ⟨Pv.tup (w := 103) (fun x hx => by rw [List.mem_singleton.mp hx]; exact z) (by simp), rfl⟩, ⟨Pv.lst (w := 103) (fun x hx => by rw [List.mem_singleton.mp hx]; exact z) (by simp), rfl⟩, fun x hx => absurd hx List.not_mem_nil⟩
def b2L : List PV := [.lst [], .tup [], .non, .int 3, .str "12", .bl true, .lst (List.replicate 129 (.int 1)), .tup (List.replicate 200 (.int 0))]
theorem b2_bad : ∀ v ∈ b2L, Pv 12 30000 v ∧ kdT v ∧ isTblV v = false := by
  have z : ∀ i : Int, i.natAbs < 2 ^ 100 → Pv 11 103 (.int i) := fun i h => Pv.int h (by omega)
  have nl : ∀ x : PV, x ∈ ([] : List PV) → False := fun x h => List.not_mem_nil h
  unfold b2L
  simp only [List.forall_mem_cons]
  refine ⟨⟨Pv.lst (w := 103) (fun x hx => (nl x hx).elim) (by simp), fun x hx => (nl x hx).elim, rfl⟩, ⟨Pv.tup (w := 103) (fun x hx => (nl x hx).elim) (by simp), fun x hx => (nl x hx).elim, rfl⟩, ⟨Pv.non (by omega), rfl, rfl⟩, ⟨Pv.int (by decide) (by omega), rfl, rfl⟩, ⟨Pv.str (by decide +kernel) (by decide), rfl, rfl⟩, ⟨Pv.bl (by omega), rfl, rfl⟩,
    ⟨Pv.lst (w := 103) (fun x hx => by rw [List.eq_of_mem_replicate hx]; exact z 1 (by decide)) (by simp), fun x hx => by rw [List.eq_of_mem_replicate hx]; rfl, by simp [isTblV, tbX]⟩, ⟨Pv.tup (w := 103) (fun x hx => by rw [List.eq_of_mem_replicate hx]; exact z 0 (by decide)) (by simp), fun x hx => by rw [List.eq_of_mem_replicate hx]; rfl, by simp [isTblV, tbX]⟩, fun x hx => (nl x hx).elim⟩
theorem num_mem {xs : List PV} {x : PV} (h : x ∈ xs) (hx : isNumV x = false) : isTblV (.lst xs) = false := by
  have : xs.all isNumV = false := by
    cases z : xs.all isNumV with
    | false => rfl
    | true => rw [List.all_eq_true] at z; rw [z x h] at hx; cases hx
  simp [isTblV, tbX, this]
end
theorem plain_law : PlainLaw m_law := by
  intro ns hl hb
  obtain ⟨ds, hds, hsm, e0⟩ := m_draws_eq ns hl 260 (by omega) []
  have e0 : m__law_draws [.scr (ns.map PV.int), .int 260] [] = .ok (.lst (ds.map PV.int)) [] := e0
  refine ⟨[], ?_⟩
  -- how many
  obtain ⟨k1, hk1, ek1⟩ := tk_nat ds 0 (m := 128) (by omega)
  obtain ⟨k2, hk2, ek2⟩ := tk_nat ds 1 (m := 20) (by omega)
  have t128 : m__law_take [.ref 0, .int 128] [PO.lst [.lst (ds.map PV.int), .int 0]] = .ok (.int (k1 : Int)) [handO ds 1] := by
    have ek1 : tk ds 0 128 = (k1 : Int) := ek1
    rw [← ek1]; exact take0 (ds := ds) (a := 0) (by omega)
  have t20 : m__law_take [.ref 0, .int 20] [handO ds 1] = .ok (.int (k2 : Int)) [handO ds 2] := by
    have ek2 : tk ds 1 20 = (k2 : Int) := ek2
    rw [← ek2]; exact take0 (by omega)
  have t6 : m__law_take [.ref 0, .int 6] [handO ds 2] = .ok (.int (tk ds 2 6)) [handO ds 3] := take0 (by omega)
  obtain ⟨mv, hmv, emv⟩ := pick_lst (xs := [.int 1, .int 2, .int 3, .int 128, .int (1 + (k1 : Int)), .int (1 + (k2 : Int))]) (tk_pos ds 2 (show (0 : Int) < 6 by omega)) (tk_lt ds 2 (show (0 : Int) < 6 by omega))
  obtain ⟨n, n1, n128, rfl⟩ : ∃ n : Nat, 1 ≤ n ∧ n ≤ 128 ∧ mv = .int (n : Int) := by
    simp only [List.mem_cons, List.not_mem_nil, or_false] at hmv
    rcases hmv with rfl | rfl | rfl | rfl | rfl | rfl
    · exact ⟨1, by omega, by omega, rfl⟩
    · exact ⟨2, by omega, by omega, rfl⟩
    · exact ⟨3, by omega, by omega, rfl⟩
    · exact ⟨128, by omega, by omega, rfl⟩
    · exact ⟨1 + k1, by omega, by omega, by push_cast; rfl⟩
    · exact ⟨1 + k2, by omega, by omega, by push_cast; rfl⟩
  unfold m_law
  rw [fnRun_go (σ := [some (.scr (ns.map PV.int)), none, none, none, none, none, none, none, none, none, none, none, none, none, none, none, none]) _ _ _ _ rfl]
  have hr10 : ∀ h, srcRng [.int 10] h = .ok ⟨rngL 0 10, []⟩ h := fun h => srcRngN (n := 10) h (by omega)
  simp only [pmS, pmT, pmU, pmV, if_true, if_false, reduceCtorEq, Bool.false_eq_true, decide_true, decide_false, e0, List.nil_append, List.length_nil, t128, t20, t6, emv, hr10]
  generalize hE : compL _ _ _ _ _ _ _ _ _ = E
  obtain ⟨acc, h', rfl, ⟨B, b, lB, bB, rfl, rfl⟩⟩ := comp_goE hE (fun i acc h => ∃ (B : List Int) (b : Nat), B.length = i ∧ (∀ z ∈ B, 0 ≤ z ∧ z < bigN) ∧ acc = B.map PV.int ∧ h = [handO ds b]) ⟨[], _, rfl, fun s hs => absurd hs List.not_mem_nil, rfl, rfl⟩
    (by
      rintro i x acc h hx ⟨B, b, lB, bB, rfl, rfl⟩
      obtain ⟨hi, rfl⟩ := rng_get hx
      refine ⟨by simp, _, _, true, _, rfl, rfl, ?_⟩
      rw [if_pos rfl]
      obtain ⟨v, b', v0, v1, ev⟩ := number_ok (ds := ds) (a := b)
      refine ⟨.int v, [handO ds b'], ?_, by simp; omega, B ++ [v], b', by simp [lB], fun q hq => ?_, by simp, rfl⟩
      · simp only [pmS, pmT, pmU, pmV, if_true, if_false, reduceCtorEq, Bool.false_eq_true, decide_true, decide_false, wipeL, ev]
      · rcases List.mem_append.mp hq with z | z
        · exact bB q z
        · rw [List.mem_singleton.mp z]; exact ⟨v0, v1⟩)
    (by simp)
  rw [rng_len] at lB
  obtain ⟨st, hst, est⟩ := tk_nat ds b (m := 1000) (by omega)
  have t1000 : m__law_take [.ref 0, .int 1000] [handO ds b] = .ok (.int (st : Int)) [handO ds (b + 1)] := by
    have est : tk ds b 1000 = (st : Int) := est
    rw [← est]; exact take0 (by omega)
  have hrn : ∀ h, srcRng [.int (n : Int)] h = .ok ⟨rngL 0 n, []⟩ h := fun h => srcRngN (n := n) h (by omega)
  simp only [pmS, pmT, pmU, pmV, if_true, if_false, reduceCtorEq, Bool.false_eq_true, decide_true, decide_false, t1000, hrn]
  obtain ⟨F, hF⟩ : ∃ F : Nat → Int, F = fun i => B.getD (i % 10) 0 + ((i / 10 : Nat) : Int) * (st : Int) := ⟨_, rfl⟩
  have bF : ∀ i, i < 128 → 0 ≤ F i ∧ F i < bigN + 20000 := fun i hi => by
    have hm : i % 10 < B.length := by omega
    have := bB (B.getD (i % 10) 0) (by rw [List.getD_eq_getElem?_getD, List.getElem?_eq_getElem hm]; exact List.getElem_mem hm)
    have h1 : ((i / 10 : Nat) : Int) * (st : Int) ≤ 12 * 1000 := Int.mul_le_mul (by omega) (by omega) (by omega) (by omega)
    have h0 : 0 ≤ ((i / 10 : Nat) : Int) * (st : Int) := Int.mul_nonneg (by omega) (by omega)
    rw [hF]
    show 0 ≤ B.getD (i % 10) 0 + ((i / 10 : Nat) : Int) * (st : Int) ∧ _
    refine ⟨by omega, ?_⟩
    show B.getD (i % 10) 0 + ((i / 10 : Nat) : Int) * (st : Int) < bigN + 20000
    unfold bigN at *
    omega
  rw [comp_ints (by simp) (n := n) (by simp [rngL]) F (fun i z hz => by
    obtain ⟨hi, rfl⟩ := rng_get hz
    have mm : ∀ h, modP (.int (i : Int)) (.int 10) h = .ok (.int ((i % 10 : Nat) : Int)) h := fun h => by rw [modP_pos (by omega)]; rfl
    have dv : ∀ h, divP (.int (i : Int)) (.int 10) h = .ok (.int ((i / 10 : Nat) : Int)) h := fun h => by rw [divP_pos (by omega) (by omega)]; rfl
    have ml : ∀ h, mulP false (.int ((i / 10 : Nat) : Int)) (.int (st : Int)) h = .ok (.int (((i / 10 : Nat) : Int) * (st : Int))) h := fun h => mulP_r (by omega) (by omega)
    have ix : ∀ h, ixP (.lst (B.map PV.int)) (.int ((i % 10 : Nat) : Int)) h = .ok (.int (B.getD (i % 10) 0)) h := fun h => ixN_lst h (by omega)
    refine ⟨_, rfl, rfl, ?_⟩
    rw [hF]
    simp only [pmS, pmT, pmU, pmV, if_true, if_false, reduceCtorEq, Bool.false_eq_true, decide_true, decide_false, wipeL, mm, dv, ml, ix]) (by omega)]
  obtain ⟨L, hL⟩ : ∃ L : List Int, L = (List.range n).map F := ⟨_, rfl⟩
  have lL : L.length = n := by rw [hL]; simp
  have bL : ∀ z ∈ L, 0 ≤ z ∧ z < bigN + 20000 := fun z hz => by
    rw [hL] at hz
    obtain ⟨i, hi, rfl⟩ := List.mem_map.mp hz
    exact bF i (by have := List.mem_range.mp hi; omega)
  have nat100 : ∀ z : Int, 0 ≤ z → z < bigN + 20000 → z.natAbs < 2 ^ 100 := fun z a b => by
    have : (2 : Nat) ^ 100 = 1267650600228229401496703205376 := by decide
    unfold bigN at b
    omega
  rw [← hL]
  obtain ⟨c, hc, ec⟩ := tk_nat ds (b + 1) (m := 2) (by omega)
  have t2 : ∀ J, m__law_take [.ref 0, .int 2] (handO ds (b + 1) :: J) = .ok (.int (c : Int)) (handO ds (b + 1 + 1) :: J) := fun J => by
    have ec : tk ds (b + 1) 2 = (c : Int) := ec
    rw [← ec]; exact takeH (by omega)
  have lp : listP true (.lst (L.map PV.int)) [handO ds (b + 1)] = .ok (.ref 1) [handO ds (b + 1), .lst (L.map PV.int)] := by simp
  have tp1 : ∀ J, tupleP (.ref 1) (handO ds (b + 1) :: .lst (L.map PV.int) :: J) = .ok (.tup (L.map PV.int)) (handO ds (b + 1) :: .lst (L.map PV.int) :: J) := fun J => tupleP_ref rfl
  obtain ⟨tv, etv, X⟩ : ∃ tv, (∀ h, ixP (.lst [.ref 1, .tup (L.map PV.int)]) (.int (c : Int)) h = .ok tv h) ∧ Hnd tv ([handO ds (b + 1 + 1), .lst (L.map PV.int)] ++ [.ins 6 []]) L := by
    rcases (show c = 0 ∨ c = 1 by omega) with rfl | rfl
    · exact ⟨.ref 1, fun _ => rfl, ⟨rfl, by rw [lenP_ref (xs := L.map PV.int) rfl]; simp, ⟨[(1, L.map PV.int)], srcSeq_ref rfl, by simp [ckOk]⟩, tupleP_ref rfl⟩⟩
    · exact ⟨.tup (L.map PV.int), fun _ => rfl, Hnd.tup _ _⟩
  have mk1 : makeP 6 m_Box_ddinitdd [tv] [handO ds (b + 1 + 1), .lst (L.map PV.int)] = .ok (.ref 2) [handO ds (b + 1 + 1), .lst (L.map PV.int), boxO (L.map PV.int) 0] := box_make X (by omega) (by omega) fun i hi => (bL i hi).1
  have mk2 : makeP 6 m_Box_ddinitdd [.lst (L.map PV.int)] [handO ds (b + 1 + 1), .lst (L.map PV.int), boxO (L.map PV.int) 0] = .ok (.ref 3) (Hx ds (b + 1 + 1) L L 0 0) := box_make (h := [handO ds (b + 1 + 1), .lst (L.map PV.int), boxO (L.map PV.int) 0]) (Hnd.lst _ _) (by omega) (by omega) fun i hi => (bL i hi).1
  obtain ⟨L5, hL5⟩ : ∃ L5 : List Int, L5 = L ++ [5] := ⟨_, rfl⟩
  obtain ⟨z0, hz0⟩ : ∃ z0, L5[0]? = some z0 := ⟨L5[0]'(by rw [hL5]; simp), List.getElem?_eq_getElem _⟩
  obtain ⟨M, hM⟩ : ∃ M : List Int, M = L5.set 0 (z0 + 1) := ⟨_, rfl⟩
  have lm : ∀ (f : PV → List PV → VH → Res PV) (ms : AM) (σ : LS) (M A B a), lstMt (.ref 1) ms σ (Hx ds a M L A B) f = (ms σ (Hx ds a M L A B)).bind fun ys h1 => f (.ref 1) ys h1 := fun f ms σ M A B a => lstMt_ok (lstOf_ref (xs := M.map PV.int) rfl)
  have ap : appendP (.ref 1) [.int 5] (Hx ds (b + 1 + 1) L L 0 0) = .ok .non (Hx ds (b + 1 + 1) L5 L 0 0) := by
    rw [appendP_ok (xs := L.map PV.int) rfl (by rw [List.length_map]; omega), hL5]; simp
  have g0 : ixP (.ref 1) (.int 0) (Hx ds (b + 1 + 1) L5 L 0 0) = .ok (.int z0) (Hx ds (b + 1 + 1) L5 L 0 0) := ixP_ref (xs := L5.map PV.int) rfl (by omega) (by simp [hz0])
  have sp : setP (.ref 1) (.int 0) (.int (z0 + 1)) (Hx ds (b + 1 + 1) L5 L 0 0) = .ok () (Hx ds (b + 1 + 1) M L 0 0) := by
    rw [setP_ok (i := 1) (xs := L5.map PV.int) rfl (show ixN (L5.map PV.int).length 0 = some 0 from ixN_nat (j := 0) (by rw [List.length_map, hL5]; simp)), hM, show (L5.map PV.int).set 0 (.int (z0 + 1)) = (L5.set 0 (z0 + 1)).map PV.int by rw [List.map_set]]
    rfl
  have ri : ∀ (i : Int), i.natAbs < 2 ^ 100 → ∀ h, reprP (.int i) h = .ok (.str (PyData.int i).shown) h := fun i hi => (Rp.int (n := 12) (w := 103) hi (by omega)).repr (by omega)
  have big : ∀ i : Int, 0 ≤ i → i < 1000000 → i.natAbs < 2 ^ 100 := fun i a b => by
    have : (2 : Nat) ^ 20 ≤ 2 ^ 100 := Nat.pow_le_pow_right (by omega) (by omega)
    omega
  have PL : ∀ x ∈ L.map PV.int, Pv 11 300 x := Pv.ints (fun i hi => nat100 i (bL i hi).1 (bL i hi).2) (by omega)
  obtain ⟨sL, _, rL⟩ := (Pv.tup (n := 11) (w := 300) (W := 50000) PL (by rw [List.length_map]; omega)).rep (by omega)
  have r0 : ∀ h, reprP (.int 0) h = .ok (.str "0") h := fun h => (Rp.int (n := 12) (w := 103) (i := 0) (by decide) (by omega)).repr (by omega) h
  have r1 : ∀ h, reprP (.int 1) h = .ok (.str "1") h := fun h => (Rp.int (n := 12) (w := 103) (i := 1) (by decide) (by omega)).repr (by omega) h
  have rn := ri (n : Int) (big _ (by omega) (by omega))
  have le2 : lenOP 6 m_Box_ddlendd [.ref 2] (Hx ds (b + 1 + 1) M L 0 0) = .ok (.int (n : Int)) (Hx ds (b + 1 + 1) M L 0 0) := by
    have := box_len (at2 (ds := ds) (a := b + 1 + 1) M L 0 0)
    rw [List.length_map, lL] at this
    exact lenOP_ok (at2 M L 0 0).ins this (by omega) (by omega)
  have pr2 : ∀ a A B, propP 6 m_Box_asks (.ref 2) (Hx ds a M L A B) = .ok (.int (A : Int)) (Hx ds a M L A B) := fun a A B => propP_ok (at2 M L A B).ins (box_asks (at2 M L A B))
  have pr3 : ∀ a A B, propP 6 m_Box_asks (.ref 3) (Hx ds a M L A B) = .ok (.int (B : Int)) (Hx ds a M L A B) := fun a A B => propP_ok (at3 M L A B).ins (box_asks (at3 M L A B))
  have tb2 : ∀ a A B, fldP 6 "table" (.ref 2) (Hx ds a M L A B) = .ok (.tup (L.map PV.int)) (Hx ds a M L A B) := fun a A B => (at2 M L A B).table
  have hr12 : ∀ h, srcRng [.int 12] h = .ok ⟨rngL 0 12, []⟩ h := fun h => srcRngN (n := 12) h (by omega)
  have z00 : ((0 : Nat) : Int) = 0 := rfl
  simp only [pmS, pmT, pmU, pmV, if_true, if_false, reduceCtorEq, Bool.false_eq_true, decide_true, decide_false, lp, tp1, t2, etv, eMakeB_def, mk1, mk2, lm, ap, g0, sp, eFld_def, tb2, rL, e1s, le2, rn, eProp_def, pr2, z00, r0, hr12]
  obtain ⟨a0, ha0⟩ : ∃ a0, a0 = b + 1 + 1 := ⟨_, rfl⟩
  rw [← ha0]
  clear lm ap g0 sp mk1 mk2 le2
  have tn : ∀ a A B, m__law_take [.ref 0, .int (n : Int)] (Hx ds a M L A B) = .ok (.int (tk ds a n)) (Hx ds (a + 1) M L A B) := fun a A B => takeH (by omega)
  have t3 : ∀ a A B, m__law_take [.ref 0, .int 3] (Hx ds a M L A B) = .ok (.int (tk ds a 3)) (Hx ds (a + 1) M L A B) := fun a A B => takeH (by omega)
  have t10 : ∀ a A B, m__law_take [.ref 0, .int 10] (Hx ds a M L A B) = .ok (.int (tk ds a 10)) (Hx ds (a + 1) M L A B) := fun a A B => takeH (by omega)
  have mB : ∀ {i : Nat} {mn : Str} {ms : AM} {f' : List PV → VH → Res PV} {σ : LS} {H : VH} {k : Nat}, At H i (L.map PV.int) k → mn = "ask" → methP 6 mn ms f' σ (.ref i) H = (ms σ H).bind fun xs h2 => f' (.ref i :: xs) h2 := fun X h => by subst h; exact methB_at X.ins rfl
  have LX : ∀ x : Nat, x < n → (L.map PV.int)[x]? = some (.int (L.getD x 0)) := fun x hx => by simp [List.getD_eq_getElem?_getD, show x < L.length by omega]
  have lx : ∀ x : Nat, x < n → ∀ h, ixP (.lst (L.map PV.int)) (.int (x : Int)) h = .ok (.int (L.getD x 0)) h := fun x hx h => ixN_lst h (by omega)
  have rx : ∀ x : Nat, x < n → ∀ h, reprP (.int (L.getD x 0)) h = .ok (.str (PyData.int (L.getD x 0)).shown) h := fun x hx => by
    have hm : L.getD x 0 ∈ L := by rw [List.getD_eq_getElem?_getD, List.getElem?_eq_getElem (by omega)]; exact List.getElem_mem (by omega)
    exact ri _ (nat100 _ (bL _ hm).1 (bL _ hm).2)
  have nnR : ∀ h, isN false (.ref 2) .non h = .ok (.bl false) h := fun _ => rfl
  refine for_bind (fun i σ h => ∃ a A, A ≤ i ∧ h = Hx ds a M L A 0 ∧ ∃ s11 s12 s13 : Option PV, σ = [some (.scr (ns.map PV.int)), some (.ref 0), some (.int (n : Int)), some (.lst (B.map PV.int)), none, some (.int (st : Int)), some (.lst (L.map PV.int)), some (.ref 1), some (.ref 2), some (.ref 3), some (.int (A : Int)), s11, s12, s13, none, none, none]) ⟨a0, 0, by omega, rfl, none, none, none, rfl⟩ ?_ ?_
  · rintro i v σ h hv ⟨a, A, hA, rfl, s11, s12, s13, rfl⟩
    obtain ⟨hi, rfl⟩ := rng_get hv
    refine ⟨by simp, _, _, rfl, ?_⟩
    obtain ⟨x, hx, ex⟩ := tk_nat ds a (m := n) (by omega)
    have tn1 := tn a A 0
    rw [ex] at tn1
    have i12 : i < 12 := hi
    by_cases q : tk ds (a + 1) 3 = 0
    · obtain ⟨w, hw, ew⟩ := pick_lst (xs := wrL n x) (tk_pos ds (a + 1 + 1) (show (0 : Int) < 10 by omega)) (tk_lt ds (a + 1 + 1) (show (0 : Int) < 10 by omega))
      obtain ⟨pw, bw⟩ := wr_bad n128 hx w hw
      obtain ⟨sw, hsw, rw'⟩ := pw.rep (by omega)
      unfold wrL at ew
      have q1 := refusalH_number (v0 := .ref 2) (v1 := w) (x := w) (hx_clean (ds := ds) (a := a + 1 + 1 + 1) M L A 0) (by simp only [pmS, pmT, pmU, pmV, if_true, if_false, reduceCtorEq, Bool.false_eq_true, decide_true, decide_false, nnR, eMethB_def, mB (at2 M L A 0) rfl, box_ask_x (at2 M L A 0) pw.kd pw.cl (by rw [List.length_map, lL]; exact bw)]) rw'
      have rA := ri (A : Int) (big _ (by omega) (by omega))
      simp only [pmS, pmT, pmU, pmV, if_true, if_false, reduceCtorEq, Bool.false_eq_true, decide_true, decide_false, tn1, t3, q, p29, t10, ew, q1, rw', told_ne (strOk_of _) hsw, eProp_def, pr2, rA, e1s, Turn'_nx]
      exact ⟨_, A, by omega, rfl, _, _, _, rfl⟩
    · have ak : m_Box_ask [.ref 2, .int (x : Int)] (Hx ds (a + 1 + 1) M L A 0) = .ok (.int (L.getD x 0)) (Hx ds (a + 1 + 1) M L (A + 1) 0) := box_ask (at2 M L A 0) (LX x hx)
      have eA : (A : Int) + 1 = ((A + 1 : Nat) : Int) := by push_cast; rfl
      have rA := ri ((A + 1 : Nat) : Int) (big _ (by omega) (by omega))
      simp only [pmS, pmT, pmU, pmV, if_true, if_false, reduceCtorEq, Bool.false_eq_true, decide_true, decide_false, tn1, t3, q, eMethB_def, mB (at2 M L A 0) rfl, ak, rx x hx, lx x hx, e1s, eA, eProp_def, pr2, rA, Turn'_nx]
      exact ⟨_, A + 1, by omega, rfl, _, _, _, rfl⟩
  · rintro σ h ⟨a, A, hA, rfl, s11, s12, s13, rfl⟩
    refine ⟨by simp, ?_⟩
    rw [rng_len] at hA
    have en : (n : Int) - 1 = ((n - 1 : Nat) : Int) := by omega
    have ak : m_Box_ask [.ref 3, .int ((n - 1 : Nat) : Int)] (Hx ds a M L A 0) = .ok (.int (L.getD (n - 1) 0)) (Hx ds a M L A 1) := box_ask (at3 M L A 0) (LX (n - 1) (by omega))
    have ll : ∀ h, ixP (.lst (L.map PV.int)) (.int (-1)) h = .ok (.int (L.getD (n - 1) 0)) h := fun h => ixP_seq (seqOf_lst _ _) (by rw [atI_last (n := n - 1) (by rw [List.length_map]; omega)]; exact LX (n - 1) (by omega))
    have z11 : ((1 : Nat) : Int) = 1 := rfl
    obtain ⟨w, hw⟩ : ∃ w : Nat, w = min n 100 := ⟨_, rfl⟩
    have ew : (if (100 : Int) < (n : Int) then (100 : Int) else (n : Int)) = (w : Int) := by split <;> omega
    obtain ⟨at', hat, eat⟩ := tk_nat ds a (m := w) (by omega)
    have tw : m__law_take [.ref 0, .int (w : Int)] (Hx ds a M L A 1) = .ok (.int (at' : Int)) (Hx ds (a + 1) M L A 1) := by rw [← eat]; exact takeH (by omega)
    obtain ⟨r, hr⟩ : ∃ r, r = (L.map PV.int).take 100 := ⟨_, rfl⟩
    have rl : r.length = w := by rw [hr, List.length_take, List.length_map]; omega
    have cu : cutP (L.map PV.int) none (some 100) = r := by
      rw [hr]
      by_cases z : 100 ≤ n
      · exact cut_to (k := 100) (by rw [List.length_map]; omega)
      · unfold cutP
        have e1 : HT.sIx (L.map PV.int).length (L.map PV.int).length (some (100 : Int)) = min 100 (L.map PV.int).length := HT.sIx_nat _ _ 100
        rw [HT.sIx_none, e1, List.length_map, lL, Nat.min_eq_right (by omega)]
        rw [List.take_of_length_le (i := 100) (l := L.map PV.int) (by rw [List.length_map]; omega)]
        exact List.take_of_length_le (by simp; omega)
    have Rr : ∀ x ∈ r, Pv 11 300 x := fun x hx => PL x (by rw [hr] at hx; exact List.mem_of_mem_take hx)
    have d1 : cutP r none (some (at' : Int)) = r.take at' := cut_to (by omega)
    have d2 : cutP r (some ((at' : Int) + 1)) none = r.drop (at' + 1) := cut_from (k := at' + 1) (by omega)
    have a1 : ∀ x h, addP false (.lst (r.take at')) (.lst [x]) h = .ok (.lst (r.take at' ++ [x])) h := fun x h => addP_ll h (by rw [List.length_take]; simp; omega)
    have a2 : ∀ x h, addP false (.lst (r.take at' ++ [x])) (.lst (r.drop (at' + 1))) h = .ok (.lst (cutAt r at' x)) h := fun x h => addP_ll h (by rw [List.length_append, List.length_take, List.length_drop]; simp; omega)
    have r0' : ∀ h, reprP (.int 0) h = .ok (.str "0") h := r0
    simp only [pmS, pmT, pmU, pmV, if_true, if_false, reduceCtorEq, Bool.false_eq_true, decide_true, decide_false, eProp_def, pr3, z00, z11, r0, r1, e1s, en, eMethB_def, mB (at3 M L A 0) rfl, ak, rx (n - 1) (by omega), ll, ew, tw, cu]
    refine for_bind (fun i σ h => h = Hx ds (a + 1) M L A 1 ∧ ∃ s16 : Option PV, σ = [some (.scr (ns.map PV.int)), some (.ref 0), some (.int (n : Int)), some (.lst (B.map PV.int)), none, some (.int (st : Int)), some (.lst (L.map PV.int)), some (.ref 1), some (.ref 2), some (.ref 3), some (.int (A : Int)), s11, s12, s13, some (.int (at' : Int)), some (.lst r), s16]) ⟨rfl, none, rfl⟩ ?_ ?_
    · rintro i v σ h hv ⟨rfl, s16, rfl⟩
      refine ⟨by simp, _, _, rfl, ?_⟩
      have hv : v ∈ b1L := List.mem_of_getElem? hv
      obtain ⟨pv, bv⟩ := b1_bad v hv
      have pc : ∀ x ∈ cutAt r at' v, Pv 11 300 x := fun x hx => by
        rcases cutAt_sub hx with rfl | z
        · exact pv
        · exact Rr x z
      have cl := cutAt_len r at' v
      have rf := refused_ok (w := 60000) (hx_clean2 (ds := ds) (a := a + 1) M L A 1) (v := .lst (cutAt r at' v)) (fun x hx => (pc x hx).kd) (Pv.lst (w := 300) pc (by omega)) (by omega) (num_mem cutAt_mem bv)
      simp only [pmS, pmT, pmU, pmV, if_true, if_false, reduceCtorEq, Bool.false_eq_true, decide_true, decide_false, d1, d2, a1, a2, rf, Bool.not_true, Turn'_nx]
      exact ⟨trivial, _, rfl⟩
    · rintro σ h ⟨rfl, s16, rfl⟩
      refine ⟨by simp, ?_⟩
      have rep1 : ∀ (x : PV) (k : Nat), (List.replicate k [x]).flatten = List.replicate k x := fun x k => by
        induction k with
        | zero => rfl
        | succ k ih => rw [List.replicate_succ, List.replicate_succ, List.flatten_cons, ih]; rfl
      have m129 : ∀ h, mulP false (.lst [.int 1]) (.int 129) h = .ok (.lst (List.replicate 129 (.int 1))) h := fun h => by
        rw [mulP_lst ⟨by omega, by decide, by omega⟩, show (129 : Int).toNat = 129 from rfl, rep1]; rfl
      have m200 : ∀ h, mulP false (.tup [.int 0]) (.int 200) h = .ok (.tup (List.replicate 200 (.int 0))) h := fun h => by
        rw [mulP_tup ⟨by simp, by omega, by omega, by simp⟩, show (200 : Int).toNat = 200 from rfl, rep1]
      simp only [pmS, pmT, pmU, pmV, if_true, if_false, reduceCtorEq, Bool.false_eq_true, decide_true, decide_false, m129, m200]
      refine for_bind (fun i σ h => h = Hx ds (a + 1) M L A 1 ∧ ∃ s16 : Option PV, σ = [some (.scr (ns.map PV.int)), some (.ref 0), some (.int (n : Int)), some (.lst (B.map PV.int)), none, some (.int (st : Int)), some (.lst (L.map PV.int)), some (.ref 1), some (.ref 2), some (.ref 3), some (.int (A : Int)), s11, s12, s13, some (.int (at' : Int)), some (.lst r), s16]) ⟨rfl, _, rfl⟩ ?_ ?_
      · rintro i v σ h hv ⟨rfl, s16, rfl⟩
        refine ⟨by simp, _, _, rfl, ?_⟩
        have hv : v ∈ b2L := List.mem_of_getElem? hv
        obtain ⟨pv, kv, bv⟩ := b2_bad v hv
        have rf := refused_ok (w := 30000) (hx_clean2 (ds := ds) (a := a + 1) M L A 1) (v := v) kv pv (by omega) bv
        simp only [pmS, pmT, pmU, pmV, if_true, if_false, reduceCtorEq, Bool.false_eq_true, decide_true, decide_false, rf, Bool.not_true, Turn'_nx]
        exact ⟨trivial, _, rfl⟩
      · rintro σ h ⟨rfl, s16, rfl⟩
        refine ⟨by simp, ?_⟩
        have rA := ri (A : Int) (big _ (by omega) (by omega))
        simp only [pmS, pmT, pmU, pmV, if_true, if_false, reduceCtorEq, Bool.false_eq_true, decide_true, decide_false, eProp_def, pr2, rA, e1q, eFld_def, tb2, rL]
        exact gc_app (h := []) (by simp)
end Pm
set_option maxHeartbeats 0 in
theorem PySem.Challenge.cw_sevenninths_k39_boxes_holds : PySem.Challenge.rw_sevenninths_k39_boxes.Holds := by
  w_on; o_law; k_head; (case hw => w_witness2)
  k_fill
  refine Pm.law_end (l := PySem.Challenge.rw_sevenninths_k39_boxes) (n := 63) (k := 7) (x := "_law_script") (m := Pm.m_law) rfl (by decide) rfl ⟨rfl, by decide, by decide⟩ (fun w h Y => PySem.W.kIn_of Y) ?F Pm.plain_law
  case F =>
    intro w mg fa h KX G hmg
    refine' Pm.all_mk KX G hmg ?y0a ?y6a ?f13a ?f13l ?f13c ?f13k ?f3l ?f3c ?f3k ?f5a ?f5l ?f5c ?f5k ?f6a ?f6l ?f6c ?f6k ?f8l ?f8c ?f8k ?f12a ?f12l ?f12c ?f12k ?f14a ?f14l ?f14c ?f14k ?f11l ?f11c ?f11k ?f10l ?f10c ?f10k ?f7a ?f7l ?f7c ?f7k ?f0l ?f0c ?f0k ?f9l ?f9c ?f9k ?f1l ?f1c ?f1k ?f2l ?f2c ?f2k ?f4l ?f4c ?f4k ?f16a ?f16l ?f16c ?f16k ?f15a ?f15l ?f15c ?f15k ?f17a ?f17l ?f17c ?f17k ?z_len ?z_int ?z_isinstance ?z_bool ?z_tuple ?z_list ?z_all ?z_abs ?z_range ?z_repr ?z_ValueError ?z_min ?g_MOST_PLACES ?c6pg ?c6hd ?c6po ?c6sa ?c6n_asked ?c6n_table ?c6m___len__ ?c6f___len__ ?c6m_ask ?c6f_ask ?c6pa_asks ?c6pb_asks ?c6pc_asks ?c6pd_asks ?c6mk ?c6mi ?c6mf ?c6mp ?x4a ?x4l ?x4b ?x4s ?x4e ?x4t ?x4k ?x4i ?x4f ?x4n_value ?x1a ?x1l ?x1b ?x1s ?x1e ?x1t ?x1k ?x1i ?x1f ?x1n_value ?x2a ?x2l ?x2b ?x2s ?x2e ?x2t ?x2k ?x2i ?x2f ?x2n_value ?x3a ?x3l ?x3b ?x3s ?x3e ?x3t ?x3k ?x3i ?x3f ?x3n_value ?x5a ?x5l ?x5b ?x5s ?x5e ?x5t ?x5k ?x5i ?x5f ?x5n_what ?e4hg ?e4hk ?e4hd ?e4ha ?e4hm ?s4_InvalidMap ?s4_InvalidNumber ?s4_InvalidSamples ?s4_InvalidTable ?s4_NinthError ?s4_TooMany ?s4_ValueError ?e1hg ?e1hk ?e1hd ?e1ha ?e1hm ?s1_InvalidMap ?s1_InvalidNumber ?s1_InvalidSamples ?s1_InvalidTable ?s1_NinthError ?s1_TooMany ?s1_ValueError ?k2i ?k2t ?k2s ?k2d ?k2b ?k1i ?k1t ?k1s ?k1d ?k1b ?k3i ?k3t ?k3s ?k3d ?k3b ?k4i ?k4t ?k4s ?k4d ?k4b ?k0i ?k0t ?k0s ?k0d ?k0b ?k5i ?k5t ?k5s ?k5d ?k5b ?ehn ?eht
    (case y0a => k_is)
    (case y6a => k_is)
    (case x4a => k_is)
    (case x1a => k_is)
    (case x2a => k_is)
    (case x3a => k_is)
    (case x5a => k_is)
    (case c6m___len__ => k_is)
    (case c6m_ask => k_is)
    (case c6pa_asks => k_is)
    (case c6mi => k_is)
    (case x4l => k_is)
    (case x4i => k_is)
    (case x1l => k_is)
    (case x1i => k_is)
    (case x2l => k_is)
    (case x2i => k_is)
    (case x3l => k_is)
    (case x3i => k_is)
    (case x5l => k_is)
    (case x5i => k_is)
    (case c6pd_asks => k_is)
    (case f13a => k_is)
    (case f13l => k_is)
    (case f13c => k_is)
    (case f13k => k_is)
    (case f3l => k_is)
    (case f3c => k_is)
    (case f3k => k_is)
    (case f5a => k_is)
    (case f5l => k_is)
    (case f5c => k_is)
    (case f5k => k_is)
    (case f6a => k_is)
    (case f6l => k_is)
    (case f6c => k_is)
    (case f6k => k_is)
    (case f8l => k_is)
    (case f8c => k_is)
    (case f8k => k_is)
    (case f12a => k_is)
    (case f12l => k_is)
    (case f12c => k_is)
    (case f12k => k_is)
    (case f14a => k_is)
    (case f14l => k_is)
    (case f14c => k_is)
    (case f14k => k_is)
    (case f11l => k_is)
    (case f11c => k_is)
    (case f11k => k_is)
    (case f10l => k_is)
    (case f10c => k_is)
    (case f10k => k_is)
    (case f7a => k_is)
    (case f7l => k_is)
    (case f7c => k_is)
    (case f7k => k_is)
    (case f0l => k_is)
    (case f0c => k_is)
    (case f0k => k_is)
    (case f9l => k_is)
    (case f9c => k_is)
    (case f9k => k_is)
    (case f1l => k_is)
    (case f1c => k_is)
    (case f1k => k_is)
    (case f2l => k_is)
    (case f2c => k_is)
    (case f2k => k_is)
    (case f4l => k_is)
    (case f4c => k_is)
    (case f4k => k_is)
    (case f16a => k_is)
    (case f16l => k_is)
    (case f16c => k_is)
    (case f16k => k_is)
    (case f15a => k_is)
    (case f15l => k_is)
    (case f15c => k_is)
    (case f15k => k_is)
    (case f17a => k_is)
    (case f17l => k_is)
    (case f17c => k_is)
    (case f17k => k_is)
    (case z_len => k_is)
    (case z_int => k_is)
    (case z_isinstance => k_is)
    (case z_bool => k_is)
    (case z_tuple => k_is)
    (case z_list => k_is)
    (case z_all => k_is)
    (case z_abs => k_is)
    (case z_range => k_is)
    (case z_repr => k_is)
    (case z_ValueError => k_is)
    (case z_min => k_is)
    (case g_MOST_PLACES => k_is)
    (case c6pg => k_is)
    (case c6hd => k_is)
    (case c6po => k_is)
    (case c6sa => k_is)
    (case c6n_asked => k_is)
    (case c6n_table => k_is)
    (case c6f___len__ => k_is)
    (case c6f_ask => k_is)
    (case c6pb_asks => k_is)
    (case c6pc_asks => k_is)
    (case c6mk => k_is)
    (case c6mf => k_is)
    (case c6mp => k_is)
    (case x4b => rfl)
    (case x4s => k_is)
    (case x4e => k_is)
    (case x4t => k_is)
    (case x4k => k_is)
    (case x4f => k_is)
    (case x4n_value => k_is)
    (case x1b => rfl)
    (case x1s => k_is)
    (case x1e => k_is)
    (case x1t => k_is)
    (case x1k => k_is)
    (case x1f => k_is)
    (case x1n_value => k_is)
    (case x2b => rfl)
    (case x2s => k_is)
    (case x2e => k_is)
    (case x2t => k_is)
    (case x2k => k_is)
    (case x2f => k_is)
    (case x2n_value => k_is)
    (case x3b => rfl)
    (case x3s => k_is)
    (case x3e => k_is)
    (case x3t => k_is)
    (case x3k => k_is)
    (case x3f => k_is)
    (case x3n_value => k_is)
    (case x5b => rfl)
    (case x5s => k_is)
    (case x5e => k_is)
    (case x5t => k_is)
    (case x5k => k_is)
    (case x5f => k_is)
    (case x5n_what => k_is)
    (case e4hg => k_is)
    (case e4hk => k_is)
    (case e4hd => k_is)
    (case e4ha => k_is)
    (case e4hm => k_is)
    (case s4_InvalidMap => k_is)
    (case s4_InvalidNumber => k_is)
    (case s4_InvalidSamples => k_is)
    (case s4_InvalidTable => k_is)
    (case s4_NinthError => k_is)
    (case s4_TooMany => k_is)
    (case s4_ValueError => k_is)
    (case e1hg => k_is)
    (case e1hk => k_is)
    (case e1hd => k_is)
    (case e1ha => k_is)
    (case e1hm => k_is)
    (case s1_InvalidMap => k_is)
    (case s1_InvalidNumber => k_is)
    (case s1_InvalidSamples => k_is)
    (case s1_InvalidTable => k_is)
    (case s1_NinthError => k_is)
    (case s1_TooMany => k_is)
    (case s1_ValueError => k_is)
    (case k2i => k_is)
    (case k2t => k_is)
    (case k2s => k_is)
    (case k2d => k_is)
    (case k2b => k_is)
    (case k1i => k_is)
    (case k1t => k_is)
    (case k1s => k_is)
    (case k1d => k_is)
    (case k1b => k_is)
    (case k3i => k_is)
    (case k3t => k_is)
    (case k3s => k_is)
    (case k3d => k_is)
    (case k3b => k_is)
    (case k4i => k_is)
    (case k4t => k_is)
    (case k4s => k_is)
    (case k4d => k_is)
    (case k4b => k_is)
    (case k0i => k_is)
    (case k0t => k_is)
    (case k0s => k_is)
    (case k0d => k_is)
    (case k0b => k_is)
    (case k5i => k_is)
    (case k5t => k_is)
    (case k5s => k_is)
    (case k5d => k_is)
    (case k5b => k_is)
    (case ehn => k_is)
    (case eht => k_is)
