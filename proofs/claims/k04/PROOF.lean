import PyProof.Rows.All
import Wide.All
import OpenK.AllK
import Wide.FinOn
import HandS.ForMost
import HandS.Exc
import HandS.TryOnly
import HandS.ExcOwn
import HandS.CallSlots
import HandS.WordsExc
import HandS.Walk
import HandS.HeadHook2
import HandS.StrMore
import HandS.TupAny
import HandS.TupMul
import HandS.Style
import HandS.IsInst
import HandS.TupLen
import HandS.RaiseMore
import HandS.More
import HandS.SetFor
import HandS.Comp
import HandS.Flow
import HandS.Ends
import HandS.HeadEnd
import HandS.Codes
import HandS.Head0
import HandS.Head1
import HandS.Head2
import HandS.HeadHook1
import PySem.Challenge.RW_marksthrough_k04_places_told
set_option Elab.async false
set_option linter.all false
set_option maxRecDepth 100000
set_option maxHeartbeats 0
/-! Values with tuples told through, objects by their places, and how they stand for what the layer tracks. -/
namespace Lit
open PySem PySem.Spec PyProof.Rows L2

/-- a value; a tuple is told through -/
inductive D where
  | non | bl (b : Bool) | int (i : Int) | str (s : List Nat) | ref (a : Addr) | tup (ds : List D) | rol (ds : List D)

/-- an object that may change -/
inductive PO where
  | lst (ds : List D) | dct (kvs : List (D × D)) | ins (c : Str) (fs : List (Str × D)) | exc (c : Str) (fs : List (Str × D))

abbrev PH := Addr → Option PO
abbrev Rho := List (Option D)
/-- an exception in flight -/
structure Exc where
  cls : Str
  fs : List (Str × D)

abbrev mkS (s : List Nat) : Str := ⟨s.toArray⟩

/-- a list that is only read -/
def FzL (K : PySem.W.Frag) (H : Hp) (a : Addr) (xs : List V) : Prop :=
  (∃ o, H a = some (.frz o (.lst xs))) ∨
    ∃ (o : Obj) (its : Array Value) (n : Nat), K.lookup a = some o ∧ o.cls = .type "list" ∧ o.dict = none ∧ o.data = .seq its n ∧ its.size ≤ sizeLine ∧ Vals xs its.toList
theorem FzL.sq {K : PySem.W.Frag} {H : Hp} {a : Addr} {xs : List V} (q : FzL K H a xs) : SqL K H a xs := by
  rcases q with q | q
  · exact .inl (.inr q)
  · exact .inr q

mutual
def RelD (K : PySem.W.Frag) (H : Hp) : D → V → Prop
  | .non, v => v = .non
  | .bl b, v => v = .bl b
  | .int i, v => v = .int i
  | .str s, v => v = .str (mkS s)
  | .ref a, v => v = .ref a
  | .tup ds, v => ∃ a vs, v = .ref a ∧ H a = some (.tup vs) ∧ RelDs K H ds vs
  | .rol ds, v => ∃ a vs, v = .ref a ∧ FzL K H a vs ∧ RelDs K H ds vs
def RelDs (K : PySem.W.Frag) (H : Hp) : List D → List V → Prop
  | [], vs => vs = []
  | d :: ds, vs => ∃ v r, vs = v :: r ∧ RelD K H d v ∧ RelDs K H ds r
end

/-- fields by their names -/
def RelF (K : PySem.W.Frag) (H : Hp) : List (Str × D) → List (Str × V) → Prop
  | [], vs => vs = []
  | (f, d) :: ds, vs => ∃ v r, vs = (f, v) :: r ∧ RelD K H d v ∧ RelF K H ds r

def keyD : D → Option Key
  | .int i => some (.inl i)
  | .str s => some (.inr (mkS s))
  | _ => none
def keysD : List D → Option (List Key)
  | [] => some []
  | d :: ds => match keyD d, keysD ds with
    | some k, some ks => some (k :: ks)
    | _, _ => none
/-- pairs of a dict whose keys are ints and texts -/
def RelK (K : PySem.W.Frag) (H : Hp) : List (D × D) → List (Key × V) → Prop
  | [], vs => vs = []
  | (k, d) :: ds, vs => ∃ kk v r, vs = (kk, v) :: r ∧ keyD k = some kk ∧ RelD K H d v ∧ RelK K H ds r
/-- .. whose keys are tuples of these -/
def RelKT (K : PySem.W.Frag) (H : Hp) : List (D × D) → List (List Key × V) → Prop
  | [], vs => vs = []
  | (k, d) :: ds, vs => ∃ ps kk v r, vs = (kk, v) :: r ∧ k = .tup ps ∧ keysD ps = some kk ∧ RelD K H d v ∧ RelKT K H ds r

/-- an exception's object, as it is told of a value -/
def ExV (cls : Value) (d : Option Addr) (a : Addr) : HO := .ext fun h => ∃ oe, h.get? a = some oe ∧ Zc cls d oe ∧ ∃ vs, oe.data = .fields vs

/-- what told objects never are -/
structure NoT (H : Hp) (x : Addr) : Prop where
  t : ∀ vs, H x ≠ some (.tup vs)
  f : ∀ o u, H x ≠ some (.frz o u)
  d : ∀ vs, H x ≠ some (.xd vs)

def RelO (K : PySem.W.Frag) (H : Hp) (a : Addr) : PO → Prop
  | .lst ds => ∃ vs, H a = some (.lst vs) ∧ RelDs K H ds vs
  | .dct kvs => (∃ ps, H a = some (.dK ps) ∧ RelK K H kvs ps) ∨ (∃ ps, H a = some (.dT ps) ∧ RelKT K H kvs ps)
  | .ins c fs => ∃ dx vs, H a = some (.ins (He.ga K c) dx vs) ∧ RelF K H fs vs
  | .exc c fs => ∃ d, H a = some (ExV (.ref (He.ga K c)) d a) ∧ ((d = none ∧ fs = []) ∨ ∃ dd vs, d = some dd ∧ H dd = some (.xd vs) ∧ RelF K H fs vs)

def RelH (K : PySem.W.Frag) (H : Hp) (h : PH) : Prop := ∀ a o, h a = some o → RelO K H a o
/-- what is tracked and not told in h stays, and is not told behind -/
def Frm (H : Hp) (h : PH) (H' : Hp) (h' : PH) : Prop := ∀ b o, H b = some o → h b = none → H' b = some o ∧ h' b = none
def RelS (K : PySem.W.Frag) (H : Hp) (ρ : Rho) (σ : L2.St) : Prop := ρ.length = σ.length ∧ ∀ (i : Nat) (d : D), ρ[i]? = some (some d) → ∃ v, σ[i]? = some (some v) ∧ RelD K H d v

theorem Frm.refl {H : Hp} {h : PH} : Frm H h H h := fun _ _ e n => ⟨e, n⟩
theorem Frm.trans {H H1 H2 : Hp} {h h1 h2 : PH} (a : Frm H h H1 h1) (b : Frm H1 h1 H2 h2) : Frm H h H2 h2 := fun c o e n =>
  let ⟨e1, n1⟩ := a c o e n
  b c o e1 n1

section
variable {K : PySem.W.Frag} {H H' : Hp} {h h' : PH} {x a : Addr}
theorem NoT.of {o : HO} (e : H x = some o) (n1 : ∀ vs, o ≠ .tup vs) (n2 : ∀ ob u, o ≠ .frz ob u) (n3 : ∀ vs, o ≠ .xd vs) : NoT H x where
  t vs z := by rw [e] at z; exact n1 vs (Option.some.inj z)
  f ob u z := by rw [e] at z; exact n2 ob u (Option.some.inj z)
  d vs z := by rw [e] at z; exact n3 vs (Option.some.inj z)
theorem NoT.free (e : H x = none) : NoT H x where
  t vs z := by rw [e] at z; cases z
  f ob u z := by rw [e] at z; cases z
  d vs z := by rw [e] at z; cases z
theorem RelO.tracked {o : PO} (q : RelO K H x o) : H x ≠ none := by
  cases o with
  | lst ds => obtain ⟨_, z, _⟩ := q; rw [z]; exact fun c => nomatch c
  | dct kvs => rcases q with ⟨_, z, _⟩ | ⟨_, z, _⟩ <;> rw [z] <;> exact fun c => nomatch c
  | ins c fs => obtain ⟨_, _, z, _⟩ := q; rw [z]; exact fun c => nomatch c
  | exc c fs => obtain ⟨_, z, _⟩ := q; rw [z]; exact fun c => nomatch c
theorem RelO.noT {o : PO} (q : RelO K H x o) : NoT H x := by
  cases o with
  | lst ds => obtain ⟨_, z, _⟩ := q; exact .of z (fun _ c => nomatch c) (fun _ _ c => nomatch c) fun _ c => nomatch c
  | dct kvs => rcases q with ⟨_, z, _⟩ | ⟨_, z, _⟩ <;> exact .of z (fun _ c => nomatch c) (fun _ _ c => nomatch c) fun _ c => nomatch c
  | ins c fs => obtain ⟨_, _, z, _⟩ := q; exact .of z (fun _ c => nomatch c) (fun _ _ c => nomatch c) fun _ c => nomatch c
  | exc c fs => obtain ⟨_, z, _⟩ := q; exact .of z (fun _ c => by unfold ExV at c; nomatch c) (fun _ _ c => by unfold ExV at c; nomatch c) fun _ c => by unfold ExV at c; nomatch c
theorem RelH.noT (r : RelH K H h) {o : PO} (e : h x = some o) : NoT H x := (r x o e).noT
/-- what a step keeps: tuples, what is only read, exceptions' dicts -/
structure Keeps (H H' : Hp) : Prop where
  t : ∀ a vs, H a = some (.tup vs) → H' a = some (.tup vs)
  f : ∀ a o u, H a = some (.frz o u) → H' a = some (.frz o u)
  d : ∀ a vs, H a = some (.xd vs) → H' a = some (.xd vs)
theorem RelH.untold (r : RelH K H h) (n : ¬ NoT H a) : h a = none := by
  cases e : h a with
  | none => rfl
  | some o => exact absurd (RelO.noT (r a o e)) n
theorem Keeps.sqT (k : Keeps H H') {vs : List V} (t : SqT K H a vs) : SqT K H' a vs := by
  rcases t with (t | ⟨o, t⟩) | t
  · exact .inl (.inl (k.t _ _ t))
  · exact .inl (.inr ⟨o, k.f _ _ _ t⟩)
  · exact .inr t
theorem Keeps.fzL (k : Keeps H H') {vs : List V} (t : FzL K H a vs) : FzL K H' a vs := by
  rcases t with ⟨o, t⟩ | t
  · exact .inl ⟨o, k.f _ _ _ t⟩
  · exact .inr t
theorem Keeps.refl : Keeps H H := ⟨fun _ _ e => e, fun _ _ _ e => e, fun _ _ e => e⟩
theorem Keeps.trans {H2 : Hp} (k : Keeps H H') (l : Keeps H' H2) : Keeps H H2 := ⟨fun a vs e => l.t a vs (k.t a vs e), fun a o vs e => l.f a o vs (k.f a o vs e), fun a vs e => l.d a vs (k.d a vs e)⟩
theorem Frm.keeps (r : RelH K H h) (f : Frm H h H' h') : Keeps H H' where
  t a vs q := (f a _ q (r.untold fun n => n.t _ q)).1
  f a o vs q := (f a _ q (r.untold fun n => n.f _ _ q)).1
  d a vs q := (f a _ q (r.untold fun n => n.d _ q)).1
mutual
theorem RelD.keep (k : Keeps H H') : ∀ {d : D} {v : V}, RelD K H d v → RelD K H' d v
  | .non, _, e => by simp only [RelD] at e ⊢; exact e
  | .bl _, _, e => by simp only [RelD] at e ⊢; exact e
  | .int _, _, e => by simp only [RelD] at e ⊢; exact e
  | .str _, _, e => by simp only [RelD] at e ⊢; exact e
  | .ref _, _, e => by simp only [RelD] at e ⊢; exact e
  | .tup ds, _, e => by
    simp only [RelD] at e ⊢
    obtain ⟨a, vs, e1, e2, e3⟩ := e
    exact ⟨a, vs, e1, k.t _ _ e2, RelDs.keep k e3⟩
  | .rol ds, _, e => by
    simp only [RelD] at e ⊢
    obtain ⟨a, vs, e1, e2, e3⟩ := e
    exact ⟨a, vs, e1, k.fzL e2, RelDs.keep k e3⟩
theorem RelDs.keep (k : Keeps H H') : ∀ {ds : List D} {vs : List V}, RelDs K H ds vs → RelDs K H' ds vs
  | [], _, e => by simp only [RelDs] at e ⊢; exact e
  | d :: ds, _, e => by
    simp only [RelDs] at e ⊢
    obtain ⟨v, r, e1, e2, e3⟩ := e
    exact ⟨v, r, e1, RelD.keep k e2, RelDs.keep k e3⟩
end
theorem RelF.keep (k : Keeps H H') : ∀ {fs : List (Str × D)} {vs : List (Str × V)}, RelF K H fs vs → RelF K H' fs vs
  | [], _, e => e
  | (_, _) :: _, _, ⟨v, r, e1, e2, e3⟩ => ⟨v, r, e1, e2.keep k, RelF.keep k e3⟩
theorem RelK.keep (k : Keeps H H') : ∀ {fs : List (D × D)} {vs : List (Key × V)}, RelK K H fs vs → RelK K H' fs vs
  | [], _, e => e
  | (_, _) :: _, _, ⟨kk, v, r, e1, e2, e3, e4⟩ => ⟨kk, v, r, e1, e2, e3.keep k, RelK.keep k e4⟩
theorem RelKT.keep (k : Keeps H H') : ∀ {fs : List (D × D)} {vs : List (List Key × V)}, RelKT K H fs vs → RelKT K H' fs vs
  | [], _, e => e
  | (_, _) :: _, _, ⟨ps, kk, v, r, e1, e0, e2, e3, e4⟩ => ⟨ps, kk, v, r, e1, e0, e2, e3.keep k, RelKT.keep k e4⟩

/-- all but x stays -/
def Stay (x : Addr) (H H' : Hp) : Prop := ∀ b o, b ≠ x → H b = some o → H' b = some o
theorem Stay.upd {o : HO} : Stay x H (upd H x o) := fun b u n e => by rw [upd_ne n]; exact e
theorem Stay.keeps (s : Stay x H H') (n : NoT H x) : Keeps H H' where
  t a vs q := s a _ (fun z => n.t vs (z ▸ q)) q
  f a o vs q := s a _ (fun z => n.f o vs (z ▸ q)) q
  d a vs q := s a _ (fun z => n.d vs (z ▸ q)) q
/-- an object told stays, as long as its own place does -/
theorem RelO.keep (k : Keeps H H') (same : ∀ u, H a = some u → H' a = some u) {o : PO} (q : RelO K H a o) : RelO K H' a o := by
  cases o with
  | lst ds => obtain ⟨vs, z, r⟩ := q; exact ⟨vs, same _ z, r.keep k⟩
  | dct kvs =>
    rcases q with ⟨ps, z, r⟩ | ⟨ps, z, r⟩
    · exact .inl ⟨ps, same _ z, r.keep k⟩
    · exact .inr ⟨ps, same _ z, r.keep k⟩
  | ins c fs => obtain ⟨dx, vs, z, r⟩ := q; exact ⟨dx, vs, same _ z, r.keep k⟩
  | exc c fs =>
    obtain ⟨d, z, r⟩ := q
    refine ⟨d, same _ z, ?_⟩
    rcases r with r | ⟨dd, vs, e1, e2, e3⟩
    · exact .inl r
    · exact .inr ⟨dd, vs, e1, k.d _ _ e2, e3.keep k⟩

def updP (h : PH) (a : Addr) (o : PO) : PH := fun b => if b = a then Option.some o else h b
theorem updP_same {o : PO} : updP h a o a = some o := by unfold updP; rw [if_pos rfl]
theorem updP_ne {b : Addr} {o : PO} (e : b ≠ a) : updP h a o b = h b := by unfold updP; rw [if_neg e]

/-- a place is put otherwise (told ahead, or free) -/
theorem RelH.put {u : HO} {o : PO} (r : RelH K H h) (n : NoT H x) (q : RelO K (upd H x u) x o) : RelH K (upd H x u) (updP h x o) := fun b ob e => by
  by_cases hb : b = x
  · subst hb
    rw [updP_same] at e
    cases e
    exact q
  · rw [updP_ne hb] at e
    exact RelO.keep (K := K) (a := b) (Stay.upd.keeps n) (fun w z => by rw [upd_ne hb]; exact z) (r b ob e)
/-- a new object is laid and not told -/
theorem RelH.laid {u : HO} (r : RelH K H h) (n : H x = none) (hn : h x = none) : RelH K (upd H x u) h := fun b ob e => by
  have hb : b ≠ x := fun z => by rw [z, hn] at e; cases e
  exact RelO.keep (K := K) (a := b) (Stay.upd.keeps (.free n)) (fun w z => by rw [upd_ne hb]; exact z) (r b ob e)
theorem Frm.put {u : HO} {o : PO} (t : h x ≠ none ∨ H x = none) : Frm H h (upd H x u) (updP h x o) := fun b w e n => by
  have hb : b ≠ x := by
    rintro rfl
    rcases t with t | t
    · exact t n
    · rw [t] at e; cases e
  rw [upd_ne hb, updP_ne hb]
  exact ⟨e, n⟩
theorem Frm.laid {u : HO} (n : H x = none) : Frm H h (upd H x u) h := fun b w e nn => by
  rw [upd_ne (fun z => by rw [z, n] at e; cases e)]
  exact ⟨e, nn⟩
theorem RelH.free (r : RelH K H h) (n : H x = none) : h x = none := by
  cases e : h x with
  | none => rfl
  | some o => exact absurd n (RelO.tracked (r x o e))
theorem RelS.keep (k : Keeps H H') {ρ : Rho} {σ : L2.St} (r : RelS K H ρ σ) : RelS K H' ρ σ := ⟨r.1, fun i d e => let ⟨v, a, b⟩ := r.2 i d e; ⟨v, a, b.keep k⟩⟩
theorem RelS.set {ρ : Rho} {σ : L2.St} (r : RelS K H ρ σ) {d : D} {v : V} (q : RelD K H d v) (i : Nat) : RelS K H (ρ.set i (some d)) (σ.set i (some v)) := by
  refine ⟨by simp [r.1], fun j e hj => ?_⟩
  by_cases hi : i = j
  · subst hi
    by_cases hl : i < ρ.length
    · rw [List.getElem?_set_self hl] at hj
      cases hj
      exact ⟨v, List.getElem?_set_self (by rw [← r.1]; exact hl), q⟩
    · rw [List.getElem?_eq_none (by simpa using hl)] at hj
      cases hj
  · rw [List.getElem?_set_ne hi] at hj ⊢
    exact r.2 j e hj
theorem RelS.drop {ρ : Rho} {σ : L2.St} (r : RelS K H ρ σ) (i : Nat) : RelS K H (ρ.set i none) (σ.set i none) := by
  refine ⟨by simp [r.1], fun j e hj => ?_⟩
  by_cases hi : i = j
  · subst hi
    by_cases hl : i < ρ.length
    · rw [List.getElem?_set_self hl] at hj
      cases hj
    · rw [List.getElem?_eq_none (by simpa using hl)] at hj
      cases hj
  · rw [List.getElem?_set_ne hi] at hj ⊢
    exact r.2 j e hj
theorem RelDs.len : ∀ {ds : List D} {vs : List V}, RelDs K H ds vs → vs.length = ds.length
  | [], _, e => by simp only [RelDs] at e; subst e; rfl
  | _ :: _, _, e => by
    simp only [RelDs] at e
    obtain ⟨v, r, rfl, _, e3⟩ := e
    simp [RelDs.len e3]
theorem RelDs.get : ∀ {ds : List D} {vs : List V}, RelDs K H ds vs → ∀ (i : Nat) (v : V), vs[i]? = some v → ∃ d, ds[i]? = some d ∧ RelD K H d v
  | [], _, e, i, v, z => by simp only [RelDs] at e; subst e; simp at z
  | d :: ds, _, e, i, v, z => by
    simp only [RelDs] at e
    obtain ⟨w, r, rfl, e2, e3⟩ := e
    cases i with
    | zero => simp at z; subst z; exact ⟨d, rfl, e2⟩
    | succ i => exact RelDs.get e3 i v (by simpa using z)
theorem RelDs.get' : ∀ {ds : List D} {vs : List V}, RelDs K H ds vs → ∀ (i : Nat) (d : D), ds[i]? = some d → ∃ v, vs[i]? = some v ∧ RelD K H d v
  | [], _, e, i, v, z => by simp at z
  | d :: ds, _, e, i, v, z => by
    simp only [RelDs] at e
    obtain ⟨w, r, rfl, e2, e3⟩ := e
    cases i with
    | zero => simp at z; subst z; exact ⟨w, rfl, e2⟩
    | succ i => exact RelDs.get' e3 i v (by simpa using z)
theorem RelDs.append : ∀ {ds es : List D} {vs ws : List V}, RelDs K H ds vs → RelDs K H es ws → RelDs K H (ds ++ es) (vs ++ ws)
  | [], _, _, _, e, f => by simp only [RelDs] at e; subst e; exact f
  | d :: ds, es, _, ws, e, f => by
    simp only [RelDs] at e
    obtain ⟨w, r, rfl, e2, e3⟩ := e
    show RelDs K H (d :: (ds ++ es)) (w :: (r ++ ws))
    simp only [RelDs]
    exact ⟨w, r ++ ws, rfl, e2, e3.append f⟩
theorem RelDs.cons {d : D} {ds : List D} {v : V} {vs : List V} (a : RelD K H d v) (b : RelDs K H ds vs) : RelDs K H (d :: ds) (v :: vs) := by
  simp only [RelDs]
  exact ⟨v, vs, rfl, a, b⟩
theorem RelDs.nil : RelDs K H [] [] := by simp only [RelDs]
theorem RelDs.one {d : D} {v : V} (a : RelD K H d v) : RelDs K H [d] [v] := .cons a .nil
theorem RelDs.take : ∀ {ds : List D} {vs : List V} (n : Nat), RelDs K H ds vs → RelDs K H (ds.take n) (vs.take n)
  | ds, vs, 0, _ => by simp only [List.take_zero, RelDs]
  | [], vs, n + 1, e => by simp only [RelDs] at e; subst e; simp [RelDs]
  | d :: ds, _, n + 1, e => by
    simp only [RelDs] at e
    obtain ⟨w, r, rfl, e2, e3⟩ := e
    exact .cons e2 (RelDs.take n e3)
theorem RelDs.drop : ∀ {ds : List D} {vs : List V} (n : Nat), RelDs K H ds vs → RelDs K H (ds.drop n) (vs.drop n)
  | ds, vs, 0, e => e
  | [], vs, n + 1, e => by simp only [RelDs] at e; subst e; simp [RelDs]
  | d :: ds, _, n + 1, e => by
    simp only [RelDs] at e
    obtain ⟨w, r, rfl, e2, e3⟩ := e
    exact RelDs.drop n e3
theorem RelDs.set : ∀ {ds : List D} {vs : List V} (n : Nat) {d : D} {v : V}, RelDs K H ds vs → RelD K H d v → RelDs K H (ds.set n d) (vs.set n v)
  | [], vs, n, _, _, e, _ => by simp only [RelDs] at e; subst e; simp [RelDs]
  | d :: ds, _, 0, _, _, e, q => by
    simp only [RelDs] at e
    obtain ⟨w, r, rfl, e2, e3⟩ := e
    exact .cons q e3
  | d :: ds, _, n + 1, _, _, e, q => by
    simp only [RelDs] at e
    obtain ⟨w, r, rfl, e2, e3⟩ := e
    exact .cons e2 (RelDs.set n e3 q)
theorem RelDs.reverse : ∀ {ds : List D} {vs : List V}, RelDs K H ds vs → RelDs K H ds.reverse vs.reverse
  | [], vs, e => by simp only [RelDs] at e; subst e; simp [RelDs]
  | d :: ds, _, e => by
    simp only [RelDs] at e
    obtain ⟨w, r, rfl, e2, e3⟩ := e
    simp only [List.reverse_cons]
    exact (RelDs.reverse e3).append (.one e2)
theorem RelDs.split {ds es : List D} {vs : List V} (e : RelDs K H (ds ++ es) vs) : ∃ a b, vs = a ++ b ∧ RelDs K H ds a ∧ RelDs K H es b := by
  refine ⟨vs.take ds.length, vs.drop ds.length, (List.take_append_drop _ _).symm, ?_, ?_⟩
  · have q := e.take ds.length
    rwa [List.take_left] at q
  · have q := e.drop ds.length
    rwa [List.drop_left] at q
end
end Lit
/-! A small syntax without positions, and what it asks of told values. -/
namespace Lit
open PySem PySem.Spec PyProof.Rows L2

/-! ### steps of the told heap -/
def Ext (h h' : PH) : Prop := ∀ b u, h b = some u → h' b = some u
def ExtBut (a : Addr) (h h' : PH) : Prop := ∀ b u, b ≠ a → h b = some u → h' b = some u
abbrev XQ := Exc → PH → Prop
def alloc (o : PO) (h : PH) (Q : D → PH → Prop) : Prop := ∀ (p : Addr) (h' : PH), h p = none → h' p = some o → Ext h h' → Q (.ref p) h'
def put (a : Addr) (o : PO) (h : PH) (Q : PH → Prop) : Prop := ∀ h' : PH, h' a = some o → ExtBut a h h' → Q h'

/-! ### reading lists -/
def rdL (h : PH) : D → Option (List D)
  | .ref a => match h a with
    | some (.lst ds) => some ds
    | _ => none
  | .rol ds => some ds
  | _ => none
/-- a list that may change -/
def rdM (h : PH) : D → Option (List D)
  | .ref a => match h a with
    | some (.lst ds) => some ds
    | _ => none
  | _ => none
def rdT : D → Option (List D)
  | .tup ds => some ds
  | _ => none
/-- a list or a tuple -/
def rdQ (h : PH) : D → Option (List D)
  | .tup ds => some ds
  | d => rdL h d
def deref : Nat → PH → D → Option D
  | 0, _, _ => none
  | n + 1, h, .ref a => match h a with
    | some (.lst ds) => (ds.mapM (deref n h)).map .rol
    | _ => none
  | n + 1, h, .tup ds => (ds.mapM (deref n h)).map .tup
  | n + 1, h, .rol ds => (ds.mapM (deref n h)).map .rol
  | _ + 1, _, d => some d
mutual
def toPD : D → PyData
  | .non => .none
  | .bl b => .bool b
  | .int i => .int i
  | .str s => .str (mkS s)
  | .ref _ => .none
  | .tup ds => .tuple (toPDs ds)
  | .rol ds => .list (toPDs ds)
def toPDs : List D → List PyData
  | [] => []
  | d :: ds => toPD d :: toPDs ds
end
def sane (d : D) : Bool := SeqAt.shaped (toPD d)
def eqv (a b : D) : Bool := PyData.eqv (toPD a) (toPD b)
def deepEq (h : PH) (x y : D) (Q : Bool → Prop) : Prop := match deref 12 h x, deref 12 h y with
  | some a, some b => sane a = true ∧ sane b = true ∧ Q (eqv a b)
  | _, _ => False
def eqQ (h : PH) (x y : D) (Q : Bool → Prop) : Prop := match x, y with
  | .str a, .str b => Q (decide (a = b))
  | .int i, .int j => Q (decide (i = j))
  | x, y => deepEq h x y Q
def flatD : D → Bool
  | .non => true
  | .bl _ => true
  | .int _ => true
  | .str _ => true
  | _ => false
/-- == of flat things -/
def eqF : D → D → Bool
  | .non, .non => true
  | .bl a, .bl b => a == b
  | .int i, .int j => decide (i = j)
  | .str a, .str b => decide (a = b)
  | .bl a, .int j => decide ((if a then 1 else 0) = j)
  | .int i, .bl b => decide (i = (if b then 1 else 0))
  | _, _ => false
def inQ (h : PH) (x y : D) (Q : Bool → Prop) : Prop := match x, y with
  | .str [c], .str b => Q (decide (c ∈ b))
  | x, y => match rdQ h y with
    | some ds => flatD x = true ∧ ds.all flatD = true ∧ Q (ds.any fun d => eqF d x)
    | none => False

/-! ### operators -/
inductive BOp where | add | sub | mul | fdiv | mod | pow
  deriving DecidableEq
inductive COp where | eq | ne | lt | le | gt | ge | isin | notin | is | isnot
  deriving DecidableEq
def binD (o : BOp) (x y : D) (h : PH) (Q : D → PH → Prop) : Prop := match o, x, y with
  | .add, .int i, .int j => Q (.int (i + j)) h
  | .add, .str a, .str b => a.length + b.length ≤ sizeLine ∧ Q (.str (a ++ b)) h
  | .add, .tup a, .tup b => a.length + b.length ≤ sizeLine ∧ Q (.tup (a ++ b)) h
  | .add, x, y => match rdM h x, rdM h y with
    | some a, some b => a.length + b.length ≤ sizeLine ∧ alloc (.lst (a ++ b)) h Q
    | _, _ => False
  | .sub, .int i, .int j => Q (.int (i - j)) h
  | .mul, .int i, .int j => CMul i j ∧ Q (.int (i * j)) h
  | .mul, .str a, .int k => 1 ≤ k ∧ k ≤ 10000 ∧ 0 < a.length ∧ a.length ≤ 100 ∧ Q (.str (List.replicate k.toNat a).flatten) h
  | .mul, .tup a, .int k => a ≠ [] ∧ 2 ≤ k ∧ k ≤ 1000 ∧ a.length ≤ 1000 ∧ Q (.tup (List.replicate k.toNat a).flatten) h
  | .mul, x, .int k => match rdM h x with
    | some a => 0 ≤ k ∧ k < 2 ^ 62 ∧ a.length * k.toNat ≤ sizeLine ∧ alloc (.lst (List.replicate k.toNat a).flatten) h Q
    | _ => False
  | .fdiv, .int i, .int j => CDiv i j ∧ Q (.int (i / j)) h
  | .mod, .int i, .int j => 0 < j ∧ Q (.int (i % j)) h
  | .pow, .int i, .int j => CPow i j ∧ Q (.int (i ^ j.toNat)) h
  | _, _, _ => False
def noneD : D → Bool
  | .non => true
  | _ => false
def isQ (x y : D) (Q : Bool → Prop) : Prop := match y with
  | .non => Q (noneD x)
  | .bl b => match x with
    | .bl a => Q (a == b)
    | _ => False
  | _ => False
def intsOf : List D → Option (List Int)
  | [] => some []
  | .int i :: r => (intsOf r).map (i :: ·)
  | _ => none
def cmpD (o : COp) (x y : D) (h : PH) (Q : Bool → Prop) : Prop := match o with
  | .eq => eqQ h x y Q
  | .ne => eqQ h x y fun b => Q (!b)
  | .lt => match x, y with
    | .int i, .int j => Q (decide (i < j))
    | _, _ => False
  | .le => match x, y with
    | .int i, .int j => Q (decide (i ≤ j))
    | _, _ => False
  | .gt => match x, y with
    | .int i, .int j => Q (decide (j < i))
    | _, _ => False
  | .ge => match x, y with
    | .int i, .int j => Q (decide (j ≤ i))
    | _, _ => False
  | .isin => inQ h x y Q
  | .notin => inQ h x y fun b => Q (!b)
  | .is => isQ x y Q
  | .isnot => isQ x y fun b => Q (!b)
def truQ (h : PH) (x : D) (Q : Bool → Prop) : Prop := match x with
  | .non => Q false
  | .bl b => Q b
  | .int i => Q (decide (i ≠ 0))
  | .str s => s.length ≤ sizeLine ∧ Q (!s.isEmpty)
  | x => match rdQ h x with
    | some ds => Q (!ds.isEmpty)
    | none => False

/-! ### subscripts -/
/-- == of keys: flat things, tuples of these -/
def eqFs : List D → List D → Bool
  | [], [] => true
  | a :: as, b :: bs => eqF a b && eqFs as bs
  | _, _ => false
def eqK : D → D → Bool
  | .tup as, .tup bs => eqFs as bs
  | a, b => eqF a b
def getD? (k : D) : List (D × D) → Option D
  | [] => none
  | (a, v) :: r => if eqK a k = true then some v else getD? k r
/-- keys that a dict may be asked for -/
def keyOk : D → Bool
  | .int _ => true
  | .str _ => true
  | .tup ds => ds.all fun d => match d with
    | .int _ => true
    | .str _ => true
    | _ => false
  | _ => false
/-- the keys of one sort as this one -/
def likeKeys (k : D) (kvs : List (D × D)) : Bool := match k with
  | .tup _ => kvs.all fun p => match p.1 with
    | .tup _ => true
    | _ => false
  | _ => kvs.all fun p => match p.1 with
    | .tup _ => false
    | _ => true
def ixD (x y : D) (h : PH) (Q : D → PH → Prop) : Prop := match x, y with
  | .str s, .int i => s.length ≤ sizeLine ∧ match atI s i with
    | some c => Q (.str [c]) h
    | none => False
  | .tup ds, .int i => match atI ds i with
    | some d => Q d h
    | none => False
  | .rol ds, .int i => match atI ds i with
    | some d => Q d h
    | none => False
  | .ref a, k => match h a with
    | some (.lst ds) => match k with
      | .int i => match atI ds i with
        | some d => Q d h
        | none => False
      | _ => False
    | some (.dct kvs) => keyOk k = true ∧ match getD? k kvs with
      | some v => Q v h
      | none => False
    | _ => False
  | _, _ => False
def cutL {α : Type} (xs : List α) (lo hi : Option Int) : List α := (xs.drop (HT.sIx xs.length 0 lo)).take (HT.sIx xs.length xs.length hi - HT.sIx xs.length 0 lo)
def slD (x : D) (lo hi : Option Int) (h : PH) (Q : D → PH → Prop) : Prop := match x with
  | .str s => s.length ≤ sizeLine ∧ Q (.str (cutL s lo hi)) h
  | .tup ds => Q (.tup (cutL ds lo hi)) h
  | x => match rdL h x with
    | some ds => alloc (.lst (cutL ds lo hi)) h Q
    | none => False

/-! ### built-ins -/
inductive B1 where | len | sum | all | any | maxL | minL | int | str | repr | list | tuple
  deriving DecidableEq
inductive B2 where | max | min
  deriving DecidableEq
inductive Ty where | int | bool | str | tuple | list | own (c : Str)
  deriving DecidableEq
def blsOf : List D → Option (List Bool)
  | [] => some []
  | .bl i :: r => (blsOf r).map (i :: ·)
  | _ => none
def strsOf : List D → Option (List (List Nat))
  | [] => some []
  | .str i :: r => (strsOf r).map (i :: ·)
  | _ => none
def maxI : Int → List Int → Int
  | m, [] => m
  | m, i :: r => maxI (if m < i then i else m) r
def minI : Int → List Int → Int
  | m, [] => m
  | m, i :: r => minI (if i < m then i else m) r
def showN (i : Int) : List Nat := (toString i : Str).cps.toList
def b1D (f : B1) (x : D) (h : PH) (Q : D → PH → Prop) : Prop := match f with
  | .len => match x with
    | .str s => s.length ≤ sizeLine ∧ Q (.int s.length) h
    | x => match rdQ h x with
      | some ds => Q (.int ds.length) h
      | none => match x with
        | .ref a => match h a with
          | some (.dct kvs) => Q (.int kvs.length) h
          | _ => False
        | _ => False
  | .sum => match rdL h x with
    | some ds => match intsOf ds with
      | some ns => Q (.int ns.sum) h
      | none => False
    | none => False
  | .all => match rdL h x with
    | some ds => match blsOf ds with
      | some bs => Q (.bl (bs.all id)) h
      | none => False
    | none => False
  | .any => match rdL h x with
    | some ds => match blsOf ds with
      | some bs => Q (.bl (bs.any id)) h
      | none => False
    | none => False
  | .maxL => match rdL h x with
    | some ds => match intsOf ds with
      | some (n :: ns) => Q (.int (maxI n ns)) h
      | _ => False
    | none => False
  | .minL => match rdL h x with
    | some ds => match intsOf ds with
      | some (n :: ns) => Q (.int (minI n ns)) h
      | _ => False
    | none => False
  | .int => match x with
    | .int i => Q (.int i) h
    | .bl b => Q (.int (if b then 1 else 0)) h
    | .str s => match PySem.intText? (mkS s) with
      | some n => s.length ≤ 640 ∧ Q (.int n) h
      | none => False
    | _ => False
  | .str => match x with
    | .int i => i.natAbs.log2 < 1920 ∧ Q (.str (showN i)) h
    | _ => False
  | .repr => match deref 12 h x with
    | some d => (toPD d).showable = true ∧ (toPD d).depth ≤ 60 ∧ (toPD d).hasDict = false ∧ (toPD d).shown.length ≤ sizeLine ∧ Q (.str (toPD d).shown.cps.toList) h
    | none => False
  | .list => match rdQ h x with
    | some ds => alloc (.lst ds) h Q
    | none => False
  | .tuple => match rdQ h x with
    | some ds => Q (.tup ds) h
    | none => False
def b2D (f : B2) (x y : D) (h : PH) (Q : D → PH → Prop) : Prop := match f, x, y with
  | .max, .int i, .int j => Q (.int (if j > i then j else i)) h
  | .min, .int i, .int j => Q (.int (if j < i then j else i)) h
  | _, _, _ => False
/-- a class under another one, of the program's refusals -/
def subE (c b : Str) : Bool := decide (c = b) || decide (b = "MarkError")
def isiD (t : Ty) (x : D) (h : PH) (Q : Bool → Prop) : Prop := match t, x with
  | .int, .int _ => Q true
  | .int, .bl _ => Q true
  | .bool, .bl _ => Q true
  | .str, .str _ => Q true
  | .tuple, .tup _ => Q true
  | .list, .rol _ => Q true
  | t, .ref a => match h a with
    | some (.lst _) => Q (decide (t = .list))
    | some (.dct _) => Q false
    | some (.exc c _) => match t with
      | .own b => Q (subE c b)
      | _ => Q false
    | _ => False
  | .own _, _ => False
  | _, _ => Q false

def isData : D → PH → Bool
  | .ref a, h => match h a with
    | some (.lst _) => true
    | some (.dct _) => true
    | _ => false
  | _, _ => true
/-! ### methods of built-in types -/
inductive Mth where | append | extend | pop | popAt | insert | split | join | upper | sindex | lindex | scount | dget
  deriving DecidableEq
def mthD (m : Mth) (x : D) (as : List D) (h : PH) (Q : D → PH → Prop) : Prop := match m, as with
  | .append, [y] => match x with
    | .ref a => match h a with
      | some (.lst ds) => ds.length < sizeLine ∧ put a (.lst (ds ++ [y])) h fun h' => Q .non h'
      | _ => False
    | _ => False
  | .extend, [y] => match x, y with
    | .ref a, .ref b => match h a, h b with
      | some (.lst ds), some (.lst es) => ds.length + es.length ≤ sizeLine ∧ put a (.lst (ds ++ es)) h fun h' => Q .non h'
      | _, _ => False
    | _, _ => False
  | .pop, [] => match x with
    | .ref a => match h a with
      | some (.lst ds) => match ds[ds.length - 1]? with
        | some y => put a (.lst ds.dropLast) h fun h' => Q y h'
        | none => False
      | _ => False
    | _ => False
  | .split, [.str b] => match x with
    | .str a => b ≠ [] ∧ a.length + 2 ≤ sizeLine ∧ alloc (.lst ((Txt.split (mkS a) (mkS b)).map fun z => .str z.cps.toList)) h Q
    | _ => False
  | .join, [y] => match x, rdQ h y with
    | .str a, some ds => match strsOf ds with
      | some ys => (ys.map (·.length)).sum + ys.length * a.length ≤ 16777216 ∧ Q (.str (Txt.join (mkS a) (ys.map mkS)).cps.toList) h
      | none => False
    | _, _ => False
  | .insert, [.int i, y] => match x with
    | .ref a => match h a with
      | some (.lst ds) => ds.length < sizeLine ∧ 0 ≤ i ∧ i < 2 ^ 63 ∧ put a (.lst (ds.take i.toNat ++ [y] ++ ds.drop i.toNat)) h fun h' => Q .non h'
      | _ => False
    | _ => False
  | .popAt, [.int i] => match x with
    | .ref a => match h a with
      | some (.lst ds) => -(2 ^ 63) ≤ i ∧ i < 2 ^ 63 ∧ match ixN ds.length i with
        | some k => match ds[k]? with
          | some y => put a (.lst (ds.eraseIdx k)) h fun h' => Q y h'
          | none => False
        | none => False
      | _ => False
    | _ => False
  | .sindex, [.str b] => match x with
    | .str a => match Txt.index0 (mkS a) (mkS b) with
      | some k => Q (.int (k : Nat)) h
      | none => False
    | _ => False
  | .scount, [.str b] => match x with
    | .str a => Q (.int (Txt.count (mkS a) (mkS b))) h
    | _ => False
  | .dget, [k, z] => match x with
    | .ref a => match h a with
      | some (.dct kvs) => kvs ≠ [] ∧ keyOk k = true ∧ likeKeys k kvs = true ∧ Q ((getD? k kvs).getD z) h
      | _ => False
    | _ => False
  | .upper, [] => match x with
    | .str a => a.length ≤ 5592405 ∧ Q (.str (Txt.upper (mkS a)).cps.toList) h
    | _ => False
  | _, _ => False
def isStr : D → Bool
  | .str _ => true
  | _ => false
/-- the receiver's sort -/
def tyB (m : Mth) (x : D) (h : PH) : Bool := match m with
  | .append | .extend | .pop | .popAt | .insert | .lindex => (rdM h x).isSome
  | .split | .join | .upper | .sindex | .scount => isStr x
  | .dget => match x with
    | .ref a => match h a with
      | some (.dct _) => true
      | _ => false
    | _ => false
/-- o[i] = v -/
def setKV (k v : D) (kvs : List (D × D)) : List (D × D) :=
  if kvs.any (fun p => eqK p.1 k) = true then kvs.map (fun p => if eqK p.1 k = true then (p.1, v) else p) else kvs ++ [(k, v)]
def setD (o i v : D) (h : PH) (Q : PH → Prop) : Prop := match o with
  | .ref a => match h a with
    | some (.lst ds) => match i with
      | .int k => match ixN ds.length k with
        | some j => put a (.lst (ds.set j v)) h Q
        | none => False
      | _ => False
    | some (.dct kvs) => kvs ≠ [] ∧ kvs.length < sizeLine ∧ keyOk i = true ∧ likeKeys i kvs = true ∧ put a (.dct (setKV i v kvs)) h Q
    | _ => False
  | _ => False
/-- the pairs of a display: keys that are ints and texts -/
def kvPairs : List D → Option (List (D × D))
  | [] => some []
  | .int i :: v :: r => (kvPairs r).map ((.int i, v) :: ·)
  | .str s :: v :: r => (kvPairs r).map ((.str s, v) :: ·)
  | _ => none
def mergeD (kvs more : List (D × D)) : List (D × D) := more.foldl (fun acc p => setKV p.1 p.2 acc) kvs
/-- a field is put -/
def putFs (f : Str) (y : D) : List (Str × D) → List (Str × D)
  | [] => [(f, y)]
  | (g, d) :: r => if g = f then (f, y) :: r else (g, d) :: putFs f y r
/-! ### targets -/
inductive Tg where
  | nm (i : Nat) | tup (l : Tg) | nil | cons (t l : Tg)
mutual
def asg : Tg → D → Rho → Option Rho
  | .nm i, d, ρ => some (ρ.set i (some d))
  | .tup l, .tup ds, ρ => asgs l ds ρ
  | _, _, _ => none
def asgs : Tg → List D → Rho → Option Rho
  | .nil, [], ρ => some ρ
  | .cons t l, d :: ds, ρ => match asg t d ρ with
    | some ρ' => asgs l ds ρ'
    | none => none
  | _, _, _ => none
end
def wipeR (ρ : Rho) : List Nat → Rho
  | [] => ρ
  | v :: vs => (wipeR ρ vs).set v none

/-! ### the syntax -/
inductive E where
  | var (i : Nat) | int (i : Int) | bl (b : Bool) | str (s : List Nat) | non
  | gint (x : Str) (i : Int) | gstr (x : Str) (s : List Nat)
  | op (o : BOp) (a b : E) | neg (a : E) | cmp (o : COp) (a b : E) | chain (o o' : COp) (a b c : E)
  | land (es : E) | lor (es : E) | lnot (a : E) | ife (t a b : E)
  | tup (es : E) | lst (es : E) | dic (es : E)
  | ix (a i : E) | sl (a lo hi : E) | rev (a : E)
  | b1 (f : B1) (a : E) | b2 (f : B2) (a b : E) | isi (a : E) (t : Ty)
  | mth (m : Mth) (o : E) (es : E)
  | call (i : Nat) (es : E) | meth (i : Nat) (o : E) (es : E) | make (i : Nat) (es : E) | fld (c : Str) (o : E) (f : Str)
  | comp (it : E) (tg : Tg) (vs : List Nat) (cond elt : E)
  | itL (e : E) | itT (e : E) | itS (e : E) | itR1 (e : E) | itR2 (a b : E) | itEL (e : E) | itET (e : E) | itES (e : E)
  | nil | cons (a b : E)

abbrev RE := Rho → PH → XQ → (D → PH → Prop) → Prop
abbrev RT := Rho → PH → XQ → (Bool → PH → Prop) → Prop
abbrev RA := Rho → PH → XQ → (List D → PH → Prop) → Prop
abbrev RI := Rho → PH → XQ → (List D → (PH → Prop) → PH → Prop) → Prop
abbrev DSp := List D → PH → XQ → (D → PH → Prop) → Prop
def close (sp : DSp) : DSp := fun ds h xq Q => ∃ (X0 : XQ) (Q0 : D → PH → Prop), sp ds h X0 Q0 ∧ (∀ x h', X0 x h' → xq x h') ∧ ∀ d h', Q0 d h' → Q d h'
theorem close.of {sp : DSp} {ds : List D} {h : PH} {xq : XQ} {Q : D → PH → Prop} (q : sp ds h xq Q) : close sp ds h xq Q := ⟨xq, Q, q, fun _ _ z => z, fun _ _ z => z⟩
def noX : XQ := fun _ _ => False
def spAt (sps : List DSp) (i : Nat) : DSp := match sps[i]? with
  | some sp => close sp
  | none => fun _ _ _ _ => False

/-- the turns of a comprehension -/
def compLoop (tg : Tg) (vs : List Nat) (cond : RT) (elt : RE) (stay : PH → Prop) (ρ : Rho) : List D → List D → PH → (List D → PH → Prop) → Prop
  | [], acc, h, Q => Q acc h
  | d :: ds, acc, h, Q => match asg tg d (wipeR ρ vs) with
    | some ρ1 => cond ρ1 h noX fun b h1 => match b with
      | true => elt ρ1 h1 noX fun y h2 => acc.length < sizeLine ∧ stay h2 ∧ compLoop tg vs cond elt stay ρ ds (acc ++ [y]) h2 Q
      | false => stay h1 ∧ compLoop tg vs cond elt stay ρ ds acc h1 Q
    | none => False
def pairsD : List D → List D → List D
  | x :: xs, y :: ys => .tup [x, y] :: pairsD xs ys
  | _, _ => []
def natsD (n : Nat) : List D := (List.range n).map fun k : Nat => D.int (k : Int)
def optI : D → Option (Option Int)
  | .int i => some (some i)
  | _ => none

mutual
def rdE (sps : List DSp) : E → RE
  | .var i => fun ρ h _ Q => match ρ[i]? with
    | some (some d) => Q d h
    | _ => False
  | .int i => fun _ h _ Q => Q (.int i) h
  | .bl b => fun _ h _ Q => Q (.bl b) h
  | .str s => fun _ h _ Q => Q (.str s) h
  | .non => fun _ h _ Q => Q .non h
  | .gint _ i => fun _ h _ Q => Q (.int i) h
  | .gstr _ s => fun _ h _ Q => Q (.str s) h
  | .op o a b => fun ρ h xq Q => rdE sps a ρ h xq fun x h1 => rdE sps b ρ h1 xq fun y h2 => binD o x y h2 Q
  | .neg a => fun ρ h xq Q => rdE sps a ρ h xq fun x h1 => match x with
    | .int i => Q (.int (-i)) h1
    | _ => False
  | .cmp o a b => fun ρ h xq Q => rdE sps a ρ h xq fun x h1 => rdE sps b ρ h1 xq fun y h2 => cmpD o x y h2 fun k => Q (.bl k) h2
  | .chain o o' a b c => fun ρ h xq Q => rdE sps a ρ h xq fun x h1 => rdE sps b ρ h1 xq fun y h2 => cmpD o x y h2 fun k => match k with
    | true => rdE sps c ρ h2 xq fun z h3 => cmpD o' y z h3 fun k => Q (.bl k) h3
    | false => Q (.bl false) h2
  | .land es => rdAnd sps es
  | .lor es => rdOr sps es
  | .lnot a => fun ρ h xq Q => rdE sps a ρ h xq fun x h1 => truQ h1 x fun b => Q (.bl (!b)) h1
  | .ife t a b => fun ρ h xq Q => rdT_ sps t ρ h xq fun k h1 => match k with
    | true => rdE sps a ρ h1 xq Q
    | false => rdE sps b ρ h1 xq Q
  | .tup es => fun ρ h xq Q => rdA sps es ρ h xq fun ds h1 => ds.length ≤ sizeLine ∧ Q (.tup ds) h1
  | .lst es => fun ρ h xq Q => rdA sps es ρ h xq fun ds h1 => ds.length ≤ sizeLine ∧ alloc (.lst ds) h1 Q
  | .dic es => fun ρ h xq Q => rdA sps es ρ h xq fun ds h1 => match kvPairs ds with
    | some kvs => kvs.length ≤ 15 ∧ alloc (.dct (mergeD [] kvs)) h1 Q
    | none => False
  | .ix a i => fun ρ h xq Q => rdE sps a ρ h xq fun x h1 => rdE sps i ρ h1 xq fun y h2 => ixD x y h2 Q
  | .sl a lo hi => fun ρ h xq Q => rdE sps a ρ h xq fun x h1 => rdO sps lo ρ h1 xq fun l h2 => rdO sps hi ρ h2 xq fun u h3 => slD x l u h3 Q
  | .rev a => fun ρ h xq Q => rdE sps a ρ h xq fun x h1 => match rdL h1 x with
    | some ds => alloc (.lst ds.reverse) h1 Q
    | none => False
  | .b1 f a => fun ρ h xq Q => rdE sps a ρ h xq fun x h1 => b1D f x h1 Q
  | .b2 f a b => fun ρ h xq Q => rdE sps a ρ h xq fun x h1 => rdE sps b ρ h1 xq fun y h2 => b2D f x y h2 Q
  | .isi a t => fun ρ h xq Q => rdE sps a ρ h xq fun x h1 => isData x h1 = true ∧ isiD t x h1 fun k => Q (.bl k) h1
  | .mth m o es => fun ρ h xq Q => rdE sps o ρ h xq fun x h1 => tyB m x h1 = true ∧ rdA sps es ρ h1 xq fun ds h2 => mthD m x ds h2 Q
  | .call i es => fun ρ h xq Q => rdA sps es ρ h xq fun ds h1 => spAt sps i ds h1 xq Q
  | .meth i o es => fun ρ h xq Q => rdE sps o ρ h xq fun x h1 => rdA sps es ρ h1 xq fun ds h2 => spAt sps i (x :: ds) h2 xq Q
  | .make _ _ => fun _ _ _ _ => False
  | .fld c o f => fun ρ h xq Q => rdE sps o ρ h xq fun x h1 => match x with
    | .ref a => match h1 a with
      | some (.ins c' fs) => c' = c ∧ match fs.lookup f with
        | some d => Q d h1
        | none => False
      | _ => False
    | _ => False
  | .comp it tg vs cond elt => fun ρ h xq Q => rdI sps it ρ h xq fun items stay h1 =>
      compLoop tg vs (rdC sps cond) (rdE sps elt) stay ρ items [] h1 fun acc h2 => alloc (.lst acc) h2 Q
  | _ => fun _ _ _ _ => False
/-- tests -/
def rdT_ (sps : List DSp) : E → RT
  | .land es => rdAndT sps es
  | .lor es => rdOrT sps es
  | .lnot a => fun ρ h xq Q => rdT_ sps a ρ h xq fun k h1 => Q (!k) h1
  | .cmp o a b => fun ρ h xq Q => rdE sps a ρ h xq fun x h1 => rdE sps b ρ h1 xq fun y h2 => cmpD o x y h2 fun k => Q k h2
  | .chain o o' a b c => fun ρ h xq Q => rdE sps a ρ h xq fun x h1 => rdE sps b ρ h1 xq fun y h2 => cmpD o x y h2 fun k => match k with
    | true => rdE sps c ρ h2 xq fun z h3 => cmpD o' y z h3 fun k => Q k h3
    | false => Q false h2
  | .ife _ _ _ => fun _ _ _ _ => False
  | e => fun ρ h xq Q => rdE sps e ρ h xq fun x h1 => truQ h1 x fun k => Q k h1
def rdAndT (sps : List DSp) : E → RT
  | .cons a .nil => rdT_ sps a
  | .cons a r => fun ρ h xq Q => rdT_ sps a ρ h xq fun k h1 => match k with
    | true => rdAndT sps r ρ h1 xq Q
    | false => Q false h1
  | _ => fun _ _ _ _ => False
def rdOrT (sps : List DSp) : E → RT
  | .cons a .nil => rdT_ sps a
  | .cons a r => fun ρ h xq Q => rdT_ sps a ρ h xq fun k h1 => match k with
    | true => Q true h1
    | false => rdOrT sps r ρ h1 xq Q
  | _ => fun _ _ _ _ => False
/-- and, or as values -/
def rdAnd (sps : List DSp) : E → RE
  | .cons a .nil => rdE sps a
  | .cons a r => fun ρ h xq Q => rdE sps a ρ h xq fun x h1 => truQ h1 x fun k => match k with
    | true => rdAnd sps r ρ h1 xq Q
    | false => Q x h1
  | _ => fun _ _ _ _ => False
def rdOr (sps : List DSp) : E → RE
  | .cons a .nil => rdE sps a
  | .cons a r => fun ρ h xq Q => rdE sps a ρ h xq fun x h1 => truQ h1 x fun k => match k with
    | true => Q x h1
    | false => rdOr sps r ρ h1 xq Q
  | _ => fun _ _ _ _ => False
def rdA (sps : List DSp) : E → RA
  | .nil => fun _ h _ Q => Q [] h
  | .cons a r => fun ρ h xq Q => rdE sps a ρ h xq fun x h1 => rdA sps r ρ h1 xq fun xs h2 => Q (x :: xs) h2
  | _ => fun _ _ _ _ => False
/-- a bound of a cut -/
def rdO (sps : List DSp) : E → Rho → PH → XQ → (Option Int → PH → Prop) → Prop
  | .nil => fun _ h _ Q => Q none h
  | e => fun ρ h xq Q => rdE sps e ρ h xq fun x h1 => match x with
    | .int i => Q (some i) h1
    | _ => False
/-- tests of a comprehension: none, or one -/
def rdC (sps : List DSp) : E → RT
  | .nil => fun _ h _ Q => Q true h
  | .cons a .nil => rdT_ sps a
  | _ => fun _ _ _ _ => False
def rdI (sps : List DSp) : E → RI
  | .itL e => fun ρ h xq R => rdE sps e ρ h xq fun x h1 => match x with
    | .tup ds => R ds (fun _ => True) h1
    | .str s => R (s.map fun c => .str [c]) (fun _ => True) h1
    | x => match rdL h1 x with
      | some ds => R ds (fun h' => rdL h' x = some ds) h1
      | none => False
  | .itR1 e => fun ρ h xq R => rdE sps e ρ h xq fun x h1 => match x with
    | .int j => -(2 ^ 62) ≤ j ∧ j < 2 ^ 62 ∧ R (natsD j.toNat) (fun _ => True) h1
    | _ => False
  | .itR2 a b => fun ρ h xq R => rdE sps a ρ h xq fun x h1 => rdE sps b ρ h1 xq fun y h2 => match x, y with
    | .int i, .int j => (-(2 ^ 62) ≤ i ∧ i < 2 ^ 62 ∧ -(2 ^ 62) ≤ j ∧ j < 2 ^ 62) ∧ R ((List.range (j - i).toNat).map fun k : Nat => D.int (i + (k : Int))) (fun _ => True) h2
    | _, _ => False
  | .itEL e => fun ρ h xq R => rdE sps e ρ h xq fun x h1 => match rdL h1 x with
    | some ds => R (pairsD (natsD ds.length) ds) (fun h' => rdL h' x = some ds) h1
    | none => False
  | _ => fun _ _ _ _ => False
end

/-! ### statements -/
inductive SV where | exn | non | bl (b : Bool)
inductive S where
  | expr (e : E) | set (tg : Tg) (e : E) | setC (i : Nat) (e : E) | setF (c : Str) (o : E) (f : Str) (e : E) | augF (c : Str) (o : E) (f : Str) (e : E) | setI (o i e : E) | aug (i : Nat) (e : E)
  | par2 (i j : Nat) (a b : E) | par3 (i j l : Nat) (a b c : E)
  | ret (e : E) | retN | ife (t : E) (a b : S) | whl (t : E) (b : S) | for_ (it : E) (tg : Tg) (b : S) | brk | cont | pass
  | raise (c : Str) (fs : List Str) (es : E)
  | try1 (b : S) (c : Str) (n : Option Nat) (su : List (Nat × SV))
  | nil | cons (a b : S)
structure DEnds where
  nx : Rho → PH → Prop
  rt : D → PH → Prop
  bk : Rho → PH → Prop := fun _ _ => False
  ct : Rho → PH → Prop := fun _ _ => False
  xq : Rho → Exc → PH → Prop := fun _ _ _ => False
abbrev RS := DEnds → Rho → PH → Prop
def whileN (t : RT) (b : RS) : Nat → RS
  | 0 => fun _ _ _ => False
  | n + 1 => fun Z ρ h => t ρ h (Z.xq ρ) fun k h1 => match k with
    | true => b { Z with nx := whileN t b n Z, ct := whileN t b n Z, bk := Z.nx } ρ h1
    | false => Z.nx ρ h1
def forLoop (tg : Tg) (b : RS) (stay : PH → Prop) : List D → RS
  | [] => fun Z ρ h => Z.nx ρ h
  | d :: ds => fun Z ρ h => match asg tg d ρ with
    | some ρ1 => b { Z with nx := fun ρ' h' => stay h' ∧ forLoop tg b stay ds Z ρ' h', ct := fun ρ' h' => stay h' ∧ forLoop tg b stay ds Z ρ' h', bk := Z.nx } ρ1 h
    | none => False
def svD (p : Addr) : SV → D
  | .exn => .ref p
  | .non => .non
  | .bl b => .bl b
def suite (p : Addr) : List (Nat × SV) → Rho → Rho
  | [], ρ => ρ
  | (i, v) :: r, ρ => suite p r (ρ.set i (some (svD p v)))
def rdS (sps : List DSp) : S → RS
  | .expr e => fun Z ρ h => rdE sps e ρ h (Z.xq ρ) fun _ h1 => Z.nx ρ h1
  | .set tg e => fun Z ρ h => rdE sps e ρ h (Z.xq ρ) fun x h1 => match asg tg x ρ with
    | some ρ1 => Z.nx ρ1 h1
    | none => False
  | .setC i e => fun Z ρ h => rdE sps e ρ h (Z.xq ρ) fun x h1 => Z.nx (ρ.set i (some x)) h1
  | .setF c o f e => fun Z ρ h => rdE sps e ρ h (Z.xq ρ) fun y h1 => rdE sps o ρ h1 (Z.xq ρ) fun x h2 => match x with
    | .ref a => match h2 a with
      | some (.ins c' fs) => c' = c ∧ fs.length < 100 ∧ put a (.ins c (putFs f y fs)) h2 fun h3 => Z.nx ρ h3
      | _ => False
    | _ => False
  | .setI o i e => fun Z ρ h => rdE sps e ρ h (Z.xq ρ) fun y h1 => rdE sps o ρ h1 (Z.xq ρ) fun x h2 => rdE sps i ρ h2 (Z.xq ρ) fun k h3 => setD x k y h3 fun h4 => Z.nx ρ h4
  | .aug i e => fun Z ρ h => match ρ[i]? with
    | some (some x) => rdE sps e ρ h (Z.xq ρ) fun y h1 => match x, y with
      | .int a, .int b => Z.nx (ρ.set i (some (.int (a + b)))) h1
      | _, _ => False
    | _ => False
  | .par2 i j a b => fun Z ρ h => rdE sps a ρ h (Z.xq ρ) fun x h1 => rdE sps b ρ h1 (Z.xq ρ) fun y h2 => Z.nx ((ρ.set i (some x)).set j (some y)) h2
  | .par3 i j l a b c => fun Z ρ h => rdE sps a ρ h (Z.xq ρ) fun x h1 => rdE sps b ρ h1 (Z.xq ρ) fun y h2 => rdE sps c ρ h2 (Z.xq ρ) fun z h3 => Z.nx (((ρ.set i (some x)).set j (some y)).set l (some z)) h3
  | .ret e => fun Z ρ h => rdE sps e ρ h (Z.xq ρ) Z.rt
  | .retN => fun Z _ h => Z.rt .non h
  | .ife t a b => fun Z ρ h => rdT_ sps t ρ h (Z.xq ρ) fun k h1 => match k with
    | true => rdS sps a Z ρ h1
    | false => rdS sps b Z ρ h1
  | .whl t b => fun Z ρ h => ∃ n, whileN (rdT_ sps t) (rdS sps b) n Z ρ h
  | .for_ it tg b => fun Z ρ h => rdI sps it ρ h (Z.xq ρ) fun items stay h1 => forLoop tg (rdS sps b) stay items Z ρ h1
  | .brk => fun Z ρ h => Z.bk ρ h
  | .cont => fun Z ρ h => Z.ct ρ h
  | .pass => fun Z ρ h => Z.nx ρ h
  | .raise c fs es => fun Z ρ h => rdA sps es ρ h (Z.xq ρ) fun ds h1 => Z.xq ρ ⟨c, fs.zip ds⟩ h1
  | .try1 b c n su => fun Z ρ h => rdS sps b { Z with xq := fun ρ' x h' => match subE x.cls c with
      | true => ∀ (p : Addr) (h2 : PH), h' p = none → h2 p = some (.exc x.cls x.fs) → Ext h' h2 → Z.nx (match n with
        | some i => (suite p su ρ').set i none
        | none => suite p su ρ') h2
      | false => Z.xq ρ' x h' } ρ h
  | .nil => fun Z ρ h => Z.nx ρ h
  | .cons a b => fun Z ρ h => rdS sps a { Z with nx := rdS sps b Z } ρ h
  | _ => fun _ _ _ => False
end Lit
/-! Each operation upon told values is what the layer's rules say. -/
namespace Lit
open PySem PySem.Spec PyProof.Rows L2

def Out (K : PySem.W.Frag) (H : Hp) (h : PH) (Qd : D → PH → Prop) (Q : VK) : Prop := ∀ r h' v H', Qd r h' → RelD K H' r v → RelH K H' h' → Frm H h H' h' → Q v H'
def OutB (K : PySem.W.Frag) (H : Hp) (h : PH) (Qd : Bool → Prop) (Q : VK) : Prop := ∀ b, Qd b → Q (.bl b) H

section
variable {K : PySem.W.Frag} {H : Hp} {h : PH} {Qd : D → PH → Prop} {Q : VK} {d e : D} {x y : V} {ds : List D}
/-- the heap stays -/
theorem Out.at (o : Out K H h Qd Q) (r : RelH K H h) {d : D} {v : V} (q : Qd d h) (rd : RelD K H d v) : Q v H := o d h v H q rd r Frm.refl
theorem Out.int (o : Out K H h Qd Q) (r : RelH K H h) {i : Int} (q : Qd (.int i) h) : Q (.int i) H := o.at r q rfl
theorem Out.str (o : Out K H h Qd Q) (r : RelH K H h) {i : List Nat} (q : Qd (.str i) h) : Q (.str (mkS i)) H := o.at r q rfl
theorem Out.bl (o : Out K H h Qd Q) (r : RelH K H h) {i : Bool} (q : Qd (.bl i) h) : Q (.bl i) H := o.at r q rfl
theorem Out.non (o : Out K H h Qd Q) (r : RelH K H h) (q : Qd .non h) : Q .non H := o.at r q rfl
/-- a new tuple -/
theorem Out.tup (o : Out K H h Qd Q) (r : RelH K H h) {ds : List D} {vs : List V} {p : Addr} (n : H p = none) (q : Qd (.tup ds) h) (rv : RelDs K H ds vs) : Q (.ref p) (upd H p (.tup vs)) := by
  have hn := r.free n
  refine o (.tup ds) h _ _ q ?_ (r.laid n hn) (.laid n)
  simp only [RelD]
  exact ⟨p, vs, rfl, upd_same, rv.keep (Stay.upd.keeps (.free n))⟩
/-- a new told list -/
theorem Out.lst (o : Out K H h Qd Q) (r : RelH K H h) {ds : List D} {vs : List V} {p : Addr} (n : H p = none) (q : alloc (.lst ds) h Qd) (rv : RelDs K H ds vs) : Q (.ref p) (upd H p (.lst vs)) := by
  have hn := r.free n
  have q' : Qd (.ref p) (updP h p (.lst ds)) := q p _ hn updP_same fun b u e => by
    rw [updP_ne (fun z => by rw [z, hn] at e; cases e)]
    exact e
  refine o (.ref p) _ _ _ q' rfl ?_ (.put (.inr n))
  exact r.put (.free n) ⟨vs, upd_same, rv.keep (Stay.upd.keeps (.free n))⟩
/-- a told place put otherwise -/
theorem put_ok (r : RelH K H h) {a : Addr} {o o' : PO} {u : HO} {P : PH → Prop} (ha : h a = some o) (q : put a o' h P) (ro : RelO K (upd H a u) a o') :
    ∃ h', P h' ∧ RelH K (upd H a u) h' ∧ Frm H h (upd H a u) h' :=
  ⟨updP h a o', q _ updP_same (fun b u n e => by rw [updP_ne n]; exact e), r.put (r.noT ha) ro, .put (.inl (by rw [ha]; exact fun z => nomatch z))⟩

theorem rdM_ok (r : RelH K H h) (q : RelD K H d x) (e : rdM h d = some ds) : ∃ a vs, d = .ref a ∧ x = .ref a ∧ H a = some (.lst vs) ∧ RelDs K H ds vs ∧ h a = some (.lst ds) := by
  cases d with
  | ref a =>
    have e' : (match h a with
      | some (.lst ds) => some ds
      | _ => none) = some ds := e
    cases ha : h a with
    | none => rw [ha] at e'; cases e'
    | some o =>
      rw [ha] at e'
      cases o with
      | lst es =>
        cases e'
        obtain ⟨vs, z, rv⟩ := r a _ ha
        have q' : x = .ref a := q
        exact ⟨a, vs, rfl, q', z, rv, ha⟩
      | _ => cases e'
  | _ => cases e
theorem rdL_ok (r : RelH K H h) (q : RelD K H d x) (e : rdL h d = some ds) : ∃ a vs, x = .ref a ∧ SqL K H a vs ∧ RelDs K H ds vs := by
  cases d with
  | ref a =>
    obtain ⟨b, vs, e1, e2, e3, e4, _⟩ := rdM_ok r q (show rdM h (.ref a) = some ds from e)
    exact ⟨b, vs, e2, .of e3, e4⟩
  | rol es =>
    cases e
    simp only [RelD] at q
    obtain ⟨a, vs, e1, e2, e3⟩ := q
    exact ⟨a, vs, e1, e2.sq, e3⟩
  | _ => cases e
theorem rdQ_ok (r : RelH K H h) (q : RelD K H d x) (e : rdQ h d = some ds) : ∃ a vs, x = .ref a ∧ (SqL K H a vs ∨ SqT K H a vs) ∧ RelDs K H ds vs := by
  cases d with
  | tup es =>
    cases e
    simp only [RelD] at q
    obtain ⟨a, vs, e1, e2, e3⟩ := q
    exact ⟨a, vs, e1, .inr (.of e2), e3⟩
  | ref a =>
    obtain ⟨a, vs, e1, e2, e3⟩ := rdL_ok r q (show rdL h _ = some ds from e)
    exact ⟨a, vs, e1, .inl e2, e3⟩
  | rol es =>
    obtain ⟨a, vs, e1, e2, e3⟩ := rdL_ok r q (show rdL h _ = some ds from e)
    exact ⟨a, vs, e1, .inl e2, e3⟩
  | non => cases e
  | bl b => cases e
  | int i => cases e
  | str s => cases e
theorem relStr {s : List Nat} (q : RelD K H (.str s) x) : x = .str (mkS s) := q
theorem relInt {s : Int} (q : RelD K H (.int s) x) : x = .int s := q
theorem relBl {s : Bool} (q : RelD K H (.bl s) x) : x = .bl s := q
theorem relNon (q : RelD K H .non x) : x = .non := q
theorem relRef {a : Addr} (q : RelD K H (.ref a) x) : x = .ref a := q
theorem relTup {ds : List D} (q : RelD K H (.tup ds) x) : ∃ a vs, x = .ref a ∧ H a = some (.tup vs) ∧ RelDs K H ds vs := by simpa only [RelD] using q
theorem RelDs.rep {ds : List D} {vs : List V} (q : RelDs K H ds vs) : ∀ k : Nat, RelDs K H (List.replicate k ds).flatten (List.replicate k vs).flatten
  | 0 => by simp only [List.replicate_zero, List.flatten_nil]; exact .nil
  | k + 1 => by
    simp only [List.replicate_succ, List.flatten_cons]
    exact q.append (RelDs.rep q k)
theorem RelDs.cut {ds : List D} {vs : List V} (q : RelDs K H ds vs) (lo hi : Option Int) : RelDs K H (cutL ds lo hi) (cutV vs lo hi) := by
  unfold cutL cutV
  rw [q.len]
  exact (q.drop _).take _
theorem mkS_app (a b : List Nat) : mkS a ++ mkS b = mkS (a ++ b) := by
  show (⟨a.toArray ++ b.toArray⟩ : Str) = ⟨(a ++ b).toArray⟩
  simp
theorem mkS_len (a : List Nat) : (mkS a).length = a.length := by
  show a.toArray.size = a.length
  simp
theorem mkS_of (z : Str) : mkS z.cps.toList = z := by
  cases z
  simp [mkS]
theorem mkS_inj {a b : List Nat} : mkS a = mkS b ↔ a = b := by
  constructor
  · intro q
    have q' : a.toArray = b.toArray := congrArg Str.cps q
    simpa using q'
  · rintro rfl; rfl
end

/-! ### a lifted reading of two values -/
def rOp (K : PySem.W.Frag) (b : D → D → PH → (D → PH → Prop) → Prop) : R2 := fun x y H Q => ∃ d e h Qd, RelD K H d x ∧ RelD K H e y ∧ RelH K H h ∧ b d e h Qd ∧ Out K H h Qd Q
def toOp : BOp → Operator
  | .add => .Add
  | .sub => .Sub
  | .mul => .Mult
  | .fdiv => .FloorDiv
  | .mod => .Mod
  | .pow => .Pow
section
variable {X : Cx}
theorem op_bin0 (o : BOp) (hm : o ≠ .mul) : OpR X (binaryOp (toOp o)) (rOp X.K (binD o)) := by
  intro pins s σ H x y v u Q I rx ry hq
  obtain ⟨d, e, h, Qd, rd, re, rh, b, out⟩ := hq
  cases o with
  | add =>
    have viaL : (match rdM h d, rdM h e with
        | some a, some b => a.length + b.length ≤ sizeLine ∧ alloc (.lst (a ++ b)) h Qd
        | _, _ => False) → wpAny (model X.prog X.w) X.A (binaryOp .Add v u) (EP X pins σ Q) X.xe s := fun b => by
      cases e1 : rdM h d with
      | none => rw [e1] at b; exact b.elim
      | some ds =>
        cases e2 : rdM h e with
        | none => rw [e1, e2] at b; exact b.elim
        | some es =>
          rw [e1, e2] at b
          obtain ⟨hz, b⟩ := b
          obtain ⟨a1, vs, _, rfl, h1, r1, _⟩ := rdM_ok rh rd e1
          obtain ⟨a2, ws, _, rfl, h2, r2, _⟩ := rdM_ok rh re e2
          refine op_cat pins s σ H _ _ v u Q I rx ry ⟨a1, a2, vs, ws, rfl, rfl, h1, h2, by rw [r1.len, r2.len]; exact hz, fun p hp => ?_⟩
          exact out.lst rh hp b (r1.append r2)
    cases d with
    | int i =>
      cases e with
      | int j =>
        have b' : Qd (.int (i + j)) h := b
        cases relInt rd; cases relInt re
        exact op_add pins s σ H _ _ v u Q I rx ry ⟨i, j, rfl, rfl, out.int rh b'⟩
      | _ => exact viaL b
    | str i =>
      cases e with
      | str j =>
        have b' : i.length + j.length ≤ sizeLine ∧ Qd (.str (i ++ j)) h := b
        cases relStr rd; cases relStr re
        refine op_add_str pins s σ H _ _ v u Q I rx ry ⟨_, _, rfl, rfl, by rw [mkS_len, mkS_len]; exact b'.1, ?_⟩
        rw [mkS_app]
        exact out.str rh b'.2
      | _ => exact viaL b
    | tup i =>
      cases e with
      | tup j =>
        have b' : i.length + j.length ≤ sizeLine ∧ Qd (.tup (i ++ j)) h := b
        obtain ⟨a1, vs, rfl, t1, r1⟩ := relTup rd
        obtain ⟨a2, ws, rfl, t2, r2⟩ := relTup re
        refine op_catA pins s σ H _ _ v u Q I rx ry ⟨a1, a2, vs, ws, rfl, rfl, .of t1, .of t2, by rw [r1.len, r2.len]; exact b'.1, ?_⟩
        refine ⟨fun e => ?_, fun _ e => ?_, fun _ _ p hp => out.tup rh hp b'.2 (r1.append r2)⟩
        · subst e
          have z : i = [] := List.eq_nil_of_length_eq_zero (by rw [← r1.len]; rfl)
          subst z
          exact out.at rh b'.2 re
        · subst e
          have z : j = [] := List.eq_nil_of_length_eq_zero (by rw [← r2.len]; rfl)
          subst z
          have b2 := b'.2
          rw [List.append_nil] at b2
          exact out.at rh b2 rd
      | _ => exact viaL b
    | _ => exact viaL b
  | sub =>
    cases d with
    | int i =>
      cases e with
      | int j =>
        have b' : Qd (.int (i - j)) h := b
        cases relInt rd; cases relInt re
        exact op_sub pins s σ H _ _ v u Q I rx ry ⟨i, j, rfl, rfl, out.int rh b'⟩
      | _ => exact False.elim b
    | _ => exact False.elim b
  | mul => exact absurd rfl hm
  | fdiv =>
    cases d with
    | int i =>
      cases e with
      | int j =>
        have b' : CDiv i j ∧ Qd (.int (i / j)) h := b
        cases relInt rd; cases relInt re
        exact op_fdiv pins s σ H _ _ v u Q I rx ry ⟨i, j, rfl, rfl, b'.1, out.int rh b'.2⟩
      | _ => exact False.elim b
    | _ => exact False.elim b
  | mod =>
    cases d with
    | int i =>
      cases e with
      | int j =>
        have b' : 0 < j ∧ Qd (.int (i % j)) h := b
        cases relInt rd; cases relInt re
        exact op_mod pins s σ H _ _ v u Q I rx ry ⟨i, j, rfl, rfl, b'.1, out.int rh b'.2⟩
      | _ => exact False.elim b
    | _ => exact False.elim b
  | pow =>
    cases d with
    | int i =>
      cases e with
      | int j =>
        have b' : CPow i j ∧ Qd (.int (i ^ j.toNat)) h := b
        cases relInt rd; cases relInt re
        exact op_pow pins s σ H _ _ v u Q I rx ry ⟨i, j, rfl, rfl, b'.1, out.int rh b'.2⟩
      | _ => exact False.elim b
    | _ => exact False.elim b

theorem mulOk {a : List Nat} {k : Int} (h1 : 1 ≤ k) (h2 : k ≤ 10000) (h3 : 0 < a.length) (h4 : a.length ≤ 100) : MulOk (mkS a) k := by
  refine ⟨?_, fun _ _ => ?_, fun _ _ => ?_⟩
  · simp only [Bool.or_eq_false_iff, decide_eq_false_iff_not]
    omega
  · rw [mkS_len]
    have q : (100 : Int) ≤ (2 ^ 63 - 1) / k := (Int.le_ediv_iff_mul_le (by omega)).mpr (by omega)
    omega
  · rw [mkS_len]
    have q : a.length * k.toNat ≤ 100 * 10000 := Nat.mul_le_mul h4 (by omega)
    unfold Builtin.Str.tooLong
    simp only [decide_eq_false_iff_not]
    have z := sizeLine_eq
    omega
theorem flat_rep (a : List Nat) : ∀ (k : Nat) (acc : Array Nat), ((List.replicate k a.toArray).foldl (· ++ ·) acc) = (acc.toList ++ (List.replicate k a).flatten).toArray
  | 0, acc => by simp
  | k + 1, acc => by
    rw [List.replicate_succ, List.foldl_cons, flat_rep a k]
    simp [List.replicate_succ, List.append_assoc]
theorem mul_txt {a : List Nat} {k : Int} (h1 : 1 ≤ k) (h3 : 0 < a.length) : Txt.mul (mkS a) k = mkS (List.replicate k.toNat a).flatten := by
  unfold Txt.mul
  rw [if_neg (by omega)]
  by_cases hk : k = 1
  · subst hk
    rw [if_pos (by simp)]
    simp
  · have q : ((k == 1 || (mkS a).length == 0) : Bool) = false := by
      rw [mkS_len]
      simp [hk]
      intro z
      rw [z] at h3
      simp at h3
    rw [q]
    simp only [Bool.false_eq_true, if_false]
    rw [flat_rep]
    simp
theorem op_bin (o : BOp) : OpR X (binaryOp (toOp o)) (rOp X.K (binD o)) := by
  by_cases hm : o = .mul
  · subst hm
    intro pins s σ H x y v u Q I rx ry hq
    obtain ⟨d, e, h, Qd, rd, re, rh, b, out⟩ := hq
    have viaL : ∀ k, e = .int k → (match rdM h d with
        | some a => 0 ≤ k ∧ k < 2 ^ 62 ∧ a.length * k.toNat ≤ sizeLine ∧ alloc (.lst (List.replicate k.toNat a).flatten) h Qd
        | _ => False) → wpAny (model X.prog X.w) X.A (binaryOp .Mult v u) (EP X pins σ Q) X.xe s := fun k ek bb => by
      subst ek
      cases e1 : rdM h d with
      | none => rw [e1] at bb; exact bb.elim
      | some ds =>
        rw [e1] at bb
        obtain ⟨k0, k1, hz, bb⟩ := bb
        obtain ⟨a1, vs, _, rfl, h1, r1, _⟩ := rdM_ok rh rd e1
        cases relInt re
        refine op_rep pins s σ H _ _ v u Q I rx ry ⟨a1, k, vs, rfl, rfl, h1, by omega, by omega, by rw [r1.len]; exact hz, fun p hp => ?_⟩
        exact out.lst rh hp bb (r1.rep _)
    cases e with
    | int k =>
      cases d with
      | int i =>
        have b' : CMul i k ∧ Qd (.int (i * k)) h := b
        cases relInt rd; cases relInt re
        exact op_mul pins s σ H _ _ v u Q I rx ry ⟨i, k, rfl, rfl, b'.1, out.int rh b'.2⟩
      | str a =>
        have b' : 1 ≤ k ∧ k ≤ 10000 ∧ 0 < a.length ∧ a.length ≤ 100 ∧ Qd (.str (List.replicate k.toNat a).flatten) h := b
        obtain ⟨h1, h2, h3, h4, b'⟩ := b'
        cases relStr rd; cases relInt re
        obtain ⟨t, rfl⟩ := rx
        obtain ⟨t', rfl⟩ := ry
        refine SB.mul (mulOk h1 h2 h3 h4) fun t2 k2 => ?_
        rw [mul_txt h1 h3]
        exact ⟨.str _, H, I.tok _, ⟨_, rfl⟩, out.str rh b'⟩
      | tup a =>
        have b' : a ≠ [] ∧ 2 ≤ k ∧ k ≤ 1000 ∧ a.length ≤ 1000 ∧ Qd (.tup (List.replicate k.toNat a).flatten) h := b
        obtain ⟨h1, h2, h3, h4, b'⟩ := b'
        obtain ⟨a1, vs, rfl, t1, r1⟩ := relTup rd
        cases relInt re
        refine op_repT pins s σ H _ _ v u Q I rx ry ⟨a1, k, vs, rfl, rfl, .of t1, fun z => ?_, h2, h3, by rw [r1.len]; exact h4, fun p hp => out.tup rh hp b' (r1.rep _)⟩
        apply h1
        apply List.eq_nil_of_length_eq_zero
        rw [← r1.len, z]
        rfl
      | ref a => exact viaL k rfl b
      | rol a => exact viaL k rfl b
      | non => exact viaL k rfl b
      | bl a => exact viaL k rfl b
    | _ => cases d <;> exact False.elim b
  · exact op_bin0 o hm

/-! ### comparisons -/
theorem mapM_some {α β : Type} {f : α → Option β} : ∀ {l : List α} {m : List β}, l.mapM f = some m → (l = [] ∧ m = []) ∨ ∃ a r b t, l = a :: r ∧ m = b :: t ∧ f a = some b ∧ r.mapM f = some t
  | [], m, e => by
    left
    refine ⟨rfl, ?_⟩
    simpa using e.symm
  | a :: r, m, e => by
    right
    rw [List.mapM_cons] at e
    cases e1 : f a with
    | none => rw [e1] at e; cases e
    | some b =>
      cases e2 : r.mapM f with
      | none => rw [e1, e2] at e; cases e
      | some t =>
        rw [e1, e2] at e
        have em : b :: t = m := Option.some.inj e
        exact ⟨a, r, b, t, rfl, em.symm, e1, e2⟩
section
variable {K : PySem.W.Frag} {H : Hp} {h : PH}
theorem deref_dps {f : D → Option D} (ih : ∀ d a v, f d = some a → RelD K H d v → Dp K H v (toPD a)) : ∀ (ds : List D) (as : List D) (vs : List V), ds.mapM f = some as → RelDs K H ds vs → DpAll K H vs (toPDs as)
  | [], as, vs, e, r => by
    rcases mapM_some e with ⟨_, e2⟩ | ⟨_, _, _, _, z, _⟩
    · subst e2
      simp only [RelDs] at r
      subst r
      simp only [toPDs]
      exact .nil
    · cases z
  | d :: ds, as, vs, e, r => by
    rcases mapM_some e with ⟨z, _⟩ | ⟨a, r', b, t, z1, z2, z3, z4⟩
    · cases z
    · cases z1
      subst z2
      simp only [RelDs] at r
      obtain ⟨v, q, rfl, r1, r2⟩ := r
      simp only [toPDs]
      exact .cons (ih _ _ _ z3 r1) (deref_dps ih ds t q z4 r2)
theorem deref_dp (rh : RelH K H h) : ∀ (n : Nat) (d a : D) (v : V), deref n h d = some a → RelD K H d v → Dp K H v (toPD a)
  | 0, _, _, _, e, _ => by cases e
  | n + 1, .ref p, a, v, e, r => by
    have e' : (match h p with
      | some (.lst ds) => (ds.mapM (deref n h)).map .rol
      | _ => none) = some a := e
    cases ho : h p with
    | none => rw [ho] at e'; cases e'
    | some o =>
      rw [ho] at e'
      cases o with
      | lst ds =>
        obtain ⟨vs, z, rv⟩ := rh p _ ho
        cases hm : ds.mapM (deref n h) with
        | none =>
          have e2 : (ds.mapM (deref n h)).map D.rol = some a := e'
          rw [hm] at e2; cases e2
        | some as =>
          have e2 : (ds.mapM (deref n h)).map D.rol = some a := e'
          rw [hm] at e2
          cases e2
          cases relRef r
          simp only [toPD]
          exact .lst (.of z) (deref_dps (fun d a v => deref_dp rh n d a v) ds as vs hm rv)
      | _ => cases e'
  | n + 1, .tup ds, a, v, e, r => by
    have e2 : (ds.mapM (deref n h)).map D.tup = some a := e
    cases hm : ds.mapM (deref n h) with
    | none => rw [hm] at e2; cases e2
    | some as =>
      rw [hm] at e2
      cases e2
      obtain ⟨p, vs, rfl, t, rv⟩ := relTup r
      simp only [toPD]
      exact .tup (.of t) (deref_dps (fun d a v => deref_dp rh n d a v) ds as vs hm rv)
  | n + 1, .rol ds, a, v, e, r => by
    have e2 : (ds.mapM (deref n h)).map D.rol = some a := e
    cases hm : ds.mapM (deref n h) with
    | none => rw [hm] at e2; cases e2
    | some as =>
      rw [hm] at e2
      cases e2
      simp only [RelD] at r
      obtain ⟨p, vs, rfl, t, rv⟩ := r
      simp only [toPD]
      exact .lst t.sq (deref_dps (fun d a v => deref_dp rh n d a v) ds as vs hm rv)
  | n + 1, .non, a, v, e, r => by cases e; cases relNon r; simp only [toPD]; exact .non
  | n + 1, .bl b, a, v, e, r => by cases e; cases relBl r; simp only [toPD]; exact .bl b
  | n + 1, .int b, a, v, e, r => by cases e; cases relInt r; simp only [toPD]; exact .int b
  | n + 1, .str b, a, v, e, r => by cases e; cases relStr r; simp only [toPD]; exact .str _
theorem flat_ok {d : D} {v : V} (f : flatD d = true) (r : RelD K H d v) : flatV v = true := by
  cases d with
  | non => cases relNon r; rfl
  | bl b => cases relBl r; rfl
  | int b => cases relInt r; rfl
  | str b => cases relStr r; rfl
  | _ => cases f
theorem eqF_ok {d e : D} {v u : V} (f : flatD d = true) (g : flatD e = true) (r : RelD K H d v) (q : RelD K H e u) : eqV v u = eqF d e := by
  cases d with
  | non => cases relNon r; cases e <;> first | (cases relNon q; rfl) | (cases relBl q; rfl) | (cases relInt q; rfl) | (cases relStr q; rfl) | cases g
  | bl b => cases relBl r; cases e <;> first | (cases relNon q; rfl) | (cases relBl q; rfl) | (cases relInt q; show (_ == _) = decide _; rw [Bool.beq_eq_decide_eq]) | (cases relStr q; rfl) | cases g
  | int b => cases relInt r; cases e <;> first | (cases relNon q; rfl) | (cases relBl q; show (_ == _) = decide _; rw [Bool.beq_eq_decide_eq]) | (cases relInt q; show (_ == _) = decide _; rw [Bool.beq_eq_decide_eq]) | (cases relStr q; rfl) | cases g
  | str b =>
    cases relStr r
    cases e with
    | non => cases relNon q; rfl
    | bl c => cases relBl q; rfl
    | int c => cases relInt q; rfl
    | str c =>
      cases relStr q
      show (mkS b == mkS c) = decide (b = c)
      rw [Bool.beq_eq_decide_eq]
      exact decide_eq_decide.mpr mkS_inj
    | _ => cases g
  | _ => cases f
theorem flats_ok : ∀ {ds : List D} {vs : List V}, ds.all flatD = true → RelDs K H ds vs → vs.all flatV = true
  | [], _, _, r => by simp only [RelDs] at r; subst r; rfl
  | d :: ds, _, f, r => by
    simp only [RelDs] at r
    obtain ⟨v, q, rfl, r1, r2⟩ := r
    have f' := Bool.and_eq_true_iff.mp (show (flatD d && ds.all flatD) = true from f)
    show (flatV v && q.all flatV) = true
    rw [flat_ok f'.1 r1, flats_ok f'.2 r2]
    rfl
theorem in_ok {e : D} {u : V} (g : flatD e = true) (q : RelD K H e u) : ∀ {ds : List D} {vs : List V}, ds.all flatD = true → RelDs K H ds vs → inV u vs = ds.any fun d => eqF d e
  | [], _, _, r => by simp only [RelDs] at r; subst r; rfl
  | d :: ds, _, f, r => by
    simp only [RelDs] at r
    obtain ⟨v, w, rfl, r1, r2⟩ := r
    have f' := Bool.and_eq_true_iff.mp (show (flatD d && ds.all flatD) = true from f)
    have ih := in_ok g q f'.2 r2
    show (eqV v u || inV u w) = (eqF d e || ds.any fun d => eqF d e)
    rw [eqF_ok f'.1 g r1 q, ih]
end
theorem noneD_ok {K : PySem.W.Frag} {H : Hp} {d : D} {x : V} (rd : RelD K H d x) : decide (x = V.non) = noneD d := by
  cases d with
  | non => cases relNon rd; rfl
  | bl c => cases relBl rd; rfl
  | int c => cases relInt rd; rfl
  | str c => cases relStr rd; rfl
  | ref c => cases relRef rd; rfl
  | tup c => obtain ⟨_, _, rfl, _⟩ := relTup rd; rfl
  | rol c => simp only [RelD] at rd; obtain ⟨_, _, rfl, _⟩ := rd; rfl
def toC : COp → CmpOp
  | .eq => .Eq
  | .ne => .NotEq
  | .lt => .Lt
  | .le => .LtE
  | .gt => .Gt
  | .ge => .GtE
  | .isin => .In
  | .notin => .NotIn
  | .is => .Is
  | .isnot => .IsNot
def rCmp (K : PySem.W.Frag) (o : COp) : R2 := fun x y H Q => ∃ d e h Qd, RelD K H d x ∧ RelD K H e y ∧ RelH K H h ∧ cmpD o d e h Qd ∧ ∀ b, Qd b → Q (.bl b) H
theorem deep_ok {K : PySem.W.Frag} {H : Hp} {h : PH} {d e : D} {x y : V} {P : Bool → Prop} {Q : VK} (rh : RelH K H h) (rd : RelD K H d x) (re : RelD K H e y) (b : deepEq h d e P) (out : ∀ b, P b → Q (.bl b) H) : rEqD K x y H Q := by
  unfold deepEq at b
  cases e1 : deref 12 h d with
  | none => rw [e1] at b; exact b.elim
  | some a =>
    cases e2 : deref 12 h e with
    | none => rw [e1, e2] at b; exact b.elim
    | some c =>
      rw [e1, e2] at b
      obtain ⟨s1, s2, b⟩ := b
      exact ⟨toPD a, toPD c, deref_dp rh _ _ _ _ e1 rd, deref_dp rh _ _ _ _ e2 re, s1, s2, out _ b⟩
theorem eqQ_ok {K : PySem.W.Frag} {H : Hp} {h : PH} {d e : D} {x y : V} {P : Bool → Prop} {Q : VK} (rh : RelH K H h) (rd : RelD K H d x) (re : RelD K H e y) (b : eqQ h d e P) (out : ∀ b, P b → Q (.bl b) H) : rEq x y H Q ∨ rEqD K x y H Q := by
  cases d with
  | str a =>
    cases e with
    | str c =>
      left
      cases relStr rd; cases relStr re
      refine ⟨rfl, ?_⟩
      have z : decide (V.str (mkS a) = V.str (mkS c)) = decide (a = c) := decide_eq_decide.mpr ⟨fun q => mkS_inj.mp (V.str.inj q), fun q => by rw [q]⟩
      rw [z]
      exact out _ b
    | _ => exact .inr (deep_ok rh rd re b out)
  | int a =>
    cases e with
    | int c =>
      left
      cases relInt rd; cases relInt re
      refine ⟨rfl, ?_⟩
      have z : decide (V.int a = V.int c) = decide (a = c) := decide_eq_decide.mpr ⟨fun q => V.int.inj q, fun q => by rw [q]⟩
      rw [z]
      exact out _ b
    | _ => exact .inr (deep_ok rh rd re b out)
  | _ => exact .inr (deep_ok rh rd re b out)
theorem ne_of_eq {x y : V} {H : Hp} {K : PySem.W.Frag} {Q : VK} (q : rEq x y H (fun v H' => ∀ b, v = .bl b → Q (.bl (!b)) H') ∨ rEqD K x y H (fun v H' => ∀ b, v = .bl b → Q (.bl (!b)) H')) : rNe x y H Q ∨ rNeD K x y H Q := by
  rcases q with ⟨a, b⟩ | ⟨d, e, a1, a2, a3, a4, b⟩
  · exact .inl ⟨a, b _ rfl⟩
  · exact .inr ⟨d, e, a1, a2, a3, a4, b _ rfl⟩
theorem op_cmp (hu : X.A.units + 64 < cLine) (o : COp) : OpR X (compareOp (toC o)) (rCmp X.K o) := by
  intro pins s σ H x y v u Q I rx ry hq
  obtain ⟨d, e, h, Qd, rd, re, rh, b, out⟩ := hq
  have viaIn : ∀ (neg : Bool), (match rdQ h e with
      | some ds => flatD d = true ∧ ds.all flatD = true ∧ Qd (if neg then !(ds.any fun c => eqF c d) else ds.any fun c => eqF c d)
      | none => False) → rIn X.K neg x y H Q := fun neg b => by
    cases e1 : rdQ h e with
    | none => rw [e1] at b; exact b.elim
    | some ds =>
      rw [e1] at b
      obtain ⟨f1, f2, b⟩ := b
      obtain ⟨a, vs, rfl, hs, rv⟩ := rdQ_ok rh re e1
      refine ⟨a, vs, rfl, hs, flat_ok f1 rd, flats_ok f2 rv, ?_⟩
      rw [in_ok f1 rd f2 rv]
      exact out _ b
  cases o with
  | eq => exact (op_eq.or (op_eqD hu)) pins s σ H x y v u Q I rx ry (eqQ_ok rh rd re b out)
  | ne => exact (op_ne.or (op_neD hu)) pins s σ H x y v u Q I rx ry (ne_of_eq (eqQ_ok (P := fun c => Qd (!c)) rh rd re b fun c q b' e => by cases e; exact out _ q))
  | lt =>
    cases d with
    | int i =>
      cases e with
      | int j => cases relInt rd; cases relInt re; exact op_lt pins s σ H _ _ v u Q I rx ry ⟨i, j, rfl, rfl, out _ b⟩
      | _ => exact False.elim b
    | _ => exact False.elim b
  | le =>
    cases d with
    | int i =>
      cases e with
      | int j => cases relInt rd; cases relInt re; exact op_le pins s σ H _ _ v u Q I rx ry ⟨i, j, rfl, rfl, out _ b⟩
      | _ => exact False.elim b
    | _ => exact False.elim b
  | gt =>
    cases d with
    | int i =>
      cases e with
      | int j => cases relInt rd; cases relInt re; exact op_gt pins s σ H _ _ v u Q I rx ry ⟨i, j, rfl, rfl, out _ b⟩
      | _ => exact False.elim b
    | _ => exact False.elim b
  | ge =>
    cases d with
    | int i =>
      cases e with
      | int j => cases relInt rd; cases relInt re; exact op_ge pins s σ H _ _ v u Q I rx ry ⟨i, j, rfl, rfl, out _ b⟩
      | _ => exact False.elim b
    | _ => exact False.elim b
  | isin =>
    have gen : inQ h d e Qd → (∃ (c : Nat) (z : Str), x = .str ⟨#[c]⟩ ∧ y = .str z ∧ Q (.bl (decide (c ∈ z.cps.toList))) H) ∨ rIn X.K false x y H Q := fun b => by
      unfold inQ at b
      split at b
      · left
        cases relStr rd; cases relStr re
        exact ⟨_, _, rfl, rfl, out _ (by simpa using b)⟩
      · exact .inr (viaIn false b)
    exact (op_in_sign.or op_in_seq) pins s σ H x y v u Q I rx ry (gen b)
  | notin =>
    have gen : inQ h d e (fun c => Qd (!c)) → (∃ (c : Nat) (z : Str), x = .str ⟨#[c]⟩ ∧ y = .str z ∧ Q (.bl (!decide (c ∈ z.cps.toList))) H) ∨ rIn X.K true x y H Q := fun b => by
      unfold inQ at b
      split at b
      · left
        cases relStr rd; cases relStr re
        exact ⟨_, _, rfl, rfl, out _ (by simpa using b)⟩
      · exact .inr (viaIn true b)
    exact (op_notIn_sign.or op_notIn_seq) pins s σ H x y v u Q I rx ry (gen b)
  | is =>
    cases e with
    | non =>
      cases relNon re
      refine op_isN pins s σ H _ _ v u Q I rx ry ⟨rfl, ?_⟩
      have b' : Qd (noneD d) := b
      rw [noneD_ok rd]
      exact out _ b'
    | bl c =>
      cases d with
      | bl a =>
        cases relBl rd; cases relBl re
        have b' : Qd (a == c) := b
        refine op_isBl pins s σ H _ _ v u Q I rx ry ⟨a, c, rfl, rfl, ?_⟩
        rw [Bool.beq_eq_decide_eq] at b'
        exact out _ b'
      | _ => exact False.elim b
    | _ => exact False.elim b
  | isnot =>
    cases e with
    | non =>
      cases relNon re
      refine op_notN pins s σ H _ _ v u Q I rx ry ⟨rfl, ?_⟩
      have b' : Qd (!(noneD d)) := b
      rw [noneD_ok rd]
      exact out _ b'
    | bl c =>
      cases d with
      | bl a =>
        cases relBl rd; cases relBl re
        have b' : Qd (!(a == c)) := b
        refine op_notBl pins s σ H _ _ v u Q I rx ry ⟨a, c, rfl, rfl, ?_⟩
        rw [Bool.beq_eq_decide_eq] at b'
        exact out _ b'
      | _ => exact False.elim b
    | _ => exact False.elim b
end
end Lit
namespace Lit
open PySem PySem.Spec PyProof.Rows L2

section
variable {K : PySem.W.Frag} {H : Hp} {h : PH} {Qd : D → PH → Prop} {Q : VK} {d e : D} {x y : V} {ds : List D}
/-! ### truth -/
theorem empty_ok {vs : List V} (r : RelDs K H ds vs) : (!vs.isEmpty) = (!ds.isEmpty) := by
  cases ds with
  | nil => simp only [RelDs] at r; subst r; rfl
  | cons d ds => simp only [RelDs] at r; obtain ⟨v, w, rfl, _⟩ := r; rfl
theorem tru_is (rh : RelH K H h) (rd : RelD K H d x) {P : Bool → Prop} (q : truQ h d P) : ∃ k, TruV K x H k ∧ P k := by
  cases d with
  | non => cases relNon rd; exact ⟨false, rfl, q⟩
  | bl b => cases relBl rd; exact ⟨b, rfl, q⟩
  | int i =>
    cases relInt rd
    have q' : P (decide (i ≠ 0)) := q
    refine ⟨_, rfl, ?_⟩
    have z : (i != 0) = decide (i ≠ 0) := by
      by_cases e : i = 0
      · subst e; rfl
      · rw [decide_eq_true e]
        exact bne_iff_ne.mpr e
    rw [z]
    exact q'
  | str s =>
    cases relStr rd
    obtain ⟨q1, q2⟩ := (show s.length ≤ sizeLine ∧ P (!s.isEmpty) from q)
    refine ⟨_, ⟨by rw [mkS_len]; exact q1, rfl⟩, ?_⟩
    rw [mkS_len]
    cases s with
    | nil => exact q2
    | cons a r => exact q2
  | ref a =>
    have q' : (match rdQ h (.ref a) with
      | some ds => P (!ds.isEmpty)
      | none => False) := q
    cases e1 : rdQ h (.ref a) with
    | none => rw [e1] at q'; exact q'.elim
    | some ds =>
      rw [e1] at q'
      obtain ⟨b, vs, rfl, hs, rv⟩ := rdQ_ok rh rd e1
      rcases hs with hs | hs
      · exact ⟨_, .inl ⟨vs, hs, rfl⟩, by rw [empty_ok rv]; exact q'⟩
      · exact ⟨_, .inr (.inl ⟨vs, hs, rfl⟩), by rw [empty_ok rv]; exact q'⟩
  | tup es =>
    obtain ⟨b, vs, rfl, hs, rv⟩ := relTup rd
    exact ⟨_, .inr (.inl ⟨vs, .of hs, rfl⟩), by rw [empty_ok rv]; exact q⟩
  | rol es =>
    obtain ⟨b, vs, rfl, hs, rv⟩ := rdL_ok (ds := es) rh rd rfl
    exact ⟨_, .inl ⟨vs, hs, rfl⟩, by rw [empty_ok rv]; exact q⟩

/-! ### what lists hold -/
theorem ints_ok : ∀ {ds : List D} {ns : List Int} {vs : List V}, intsOf ds = some ns → RelDs K H ds vs → vs = ns.map V.int
  | [], ns, vs, e, r => by
    cases e
    simp only [RelDs] at r
    subst r
    rfl
  | .int i :: ds, ns, vs, e, r => by
    have e' : (intsOf ds).map (i :: ·) = some ns := e
    simp only [RelDs] at r
    obtain ⟨v, w, rfl, r1, r2⟩ := r
    cases e1 : intsOf ds with
    | none => rw [e1] at e'; cases e'
    | some ms =>
      rw [e1] at e'
      cases e'
      cases relInt r1
      rw [ints_ok e1 r2]
      rfl
  | .non :: _, _, _, e, _ => by cases e
  | .bl _ :: _, _, _, e, _ => by cases e
  | .str _ :: _, _, _, e, _ => by cases e
  | .ref _ :: _, _, _, e, _ => by cases e
  | .tup _ :: _, _, _, e, _ => by cases e
  | .rol _ :: _, _, _, e, _ => by cases e
theorem bls_ok : ∀ {ds : List D} {ns : List Bool} {vs : List V}, blsOf ds = some ns → RelDs K H ds vs → vs = ns.map V.bl
  | [], ns, vs, e, r => by
    cases e
    simp only [RelDs] at r
    subst r
    rfl
  | .bl i :: ds, ns, vs, e, r => by
    have e' : (blsOf ds).map (i :: ·) = some ns := e
    simp only [RelDs] at r
    obtain ⟨v, w, rfl, r1, r2⟩ := r
    cases e1 : blsOf ds with
    | none => rw [e1] at e'; cases e'
    | some ms =>
      rw [e1] at e'
      cases e'
      cases relBl r1
      rw [bls_ok e1 r2]
      rfl
  | .non :: _, _, _, e, _ => by cases e
  | .int _ :: _, _, _, e, _ => by cases e
  | .str _ :: _, _, _, e, _ => by cases e
  | .ref _ :: _, _, _, e, _ => by cases e
  | .tup _ :: _, _, _, e, _ => by cases e
  | .rol _ :: _, _, _, e, _ => by cases e
theorem strs_ok : ∀ {ds : List D} {ns : List (List Nat)} {vs : List V}, strsOf ds = some ns → RelDs K H ds vs → vs = (ns.map mkS).map V.str
  | [], ns, vs, e, r => by
    cases e
    simp only [RelDs] at r
    subst r
    rfl
  | .str i :: ds, ns, vs, e, r => by
    have e' : (strsOf ds).map (i :: ·) = some ns := e
    simp only [RelDs] at r
    obtain ⟨v, w, rfl, r1, r2⟩ := r
    cases e1 : strsOf ds with
    | none => rw [e1] at e'; cases e'
    | some ms =>
      rw [e1] at e'
      cases e'
      cases relStr r1
      rw [strs_ok e1 r2]
      rfl
  | .non :: _, _, _, e, _ => by cases e
  | .int _ :: _, _, _, e, _ => by cases e
  | .bl _ :: _, _, _, e, _ => by cases e
  | .ref _ :: _, _, _, e, _ => by cases e
  | .tup _ :: _, _, _, e, _ => by cases e
  | .rol _ :: _, _, _, e, _ => by cases e
theorem RelDs.strs : ∀ (ss : List Str), RelDs K H (ss.map fun z => D.str z.cps.toList) (ss.map V.str)
  | [] => .nil
  | s :: ss => .cons (by show _ = V.str (mkS s.cps.toList); rw [mkS_of]) (RelDs.strs ss)
theorem maxI_mem : ∀ (ns : List Int) (m : Int), maxI m ns ∈ m :: ns
  | [], m => by simp [maxI]
  | i :: r, m => by
    unfold maxI
    by_cases c : m < i
    · rw [if_pos c]
      have q := maxI_mem r i
      rcases List.mem_cons.mp q with q | q
      · rw [q]; simp
      · simp [q]
    · rw [if_neg c]
      have q := maxI_mem r m
      rcases List.mem_cons.mp q with q | q
      · rw [q]; simp
      · simp [q]
theorem maxI_ge : ∀ (ns : List Int) (m y : Int), y ∈ m :: ns → y ≤ maxI m ns
  | [], m, y, q => by
    have q' : y = m := by simpa using q
    rw [q']
    exact Int.le_refl _
  | i :: r, m, y, q => by
    unfold maxI
    by_cases c : m < i
    · rw [if_pos c]
      have t := maxI_ge r i i (by simp)
      rcases List.mem_cons.mp q with q | q
      · omega
      · exact maxI_ge r i y q
    · rw [if_neg c]
      have t := maxI_ge r m m (by simp)
      rcases List.mem_cons.mp q with q | q
      · omega
      · rcases List.mem_cons.mp q with q | q
        · omega
        · exact maxI_ge r m y (by simp [q])
theorem minI_mem : ∀ (ns : List Int) (m : Int), minI m ns ∈ m :: ns
  | [], m => by simp [minI]
  | i :: r, m => by
    unfold minI
    by_cases c : i < m
    · rw [if_pos c]
      have q := minI_mem r i
      rcases List.mem_cons.mp q with q | q
      · rw [q]; simp
      · simp [q]
    · rw [if_neg c]
      have q := minI_mem r m
      rcases List.mem_cons.mp q with q | q
      · rw [q]; simp
      · simp [q]
theorem minI_le : ∀ (ns : List Int) (m y : Int), y ∈ m :: ns → minI m ns ≤ y
  | [], m, y, q => by
    have q' : y = m := by simpa using q
    rw [q']
    exact Int.le_refl _
  | i :: r, m, y, q => by
    unfold minI
    by_cases c : i < m
    · rw [if_pos c]
      have t := minI_le r i i (by simp)
      rcases List.mem_cons.mp q with q | q
      · omega
      · exact minI_le r i y q
    · rw [if_neg c]
      have t := minI_le r m m (by simp)
      rcases List.mem_cons.mp q with q | q
      · omega
      · rcases List.mem_cons.mp q with q | q
        · omega
        · exact minI_le r m y (by simp [q])
end

/-! ### subscripts and cuts -/
section
variable {X : Cx}
theorem ix_dict (hu : X.A.units + 1 < cLine) : IxR X (fun x y H Q => ∃ a v, x = .ref a ∧ DGet H a y (some v) ∧ Q v H) := by
  intro value slice pins s σ H x y vv u Q I rx ry hq hs
  obtain ⟨a, w, rfl, g, q⟩ := hq
  obtain rfl : vv = Value.ref a := rx
  exact PyProof.Rows.tail_any (dict_typeIs I g) PySem.F.slot_dict_getitem.lookup (d_getItem hu I g ry fun w' s3 I3 rw' => ⟨w, H, I3, rw', q⟩) hs
theorem set_dict (hu : X.A.units + 1 < cLine) : PSet X (fun o i v H Q => ∃ a H', o = .ref a ∧ DPut H a i v H' ∧ Q H') := by
  intro pins s σ H o i vv ov iv u Q I ro ri rv hq
  obtain ⟨a, H', rfl, g, q⟩ := hq
  obtain rfl : ov = Value.ref a := ro
  exact d_setItem hu I g ri rv fun s4 I4 => ⟨H', I4, q⟩
theorem PSet.or {t t' : TSet} (h : PSet X t) (h' : PSet X t') : PSet X (fun o i v H Q => t o i v H Q ∨ t' o i v H Q) := by
  intro pins s σ H o i vv ov iv u Q I ro ri rv hq
  rcases hq with hq | hq
  · exact h pins s σ H o i vv ov iv u Q I ro ri rv hq
  · exact h' pins s σ H o i vv ov iv u Q I ro ri rv hq
end
section
variable {K : PySem.W.Frag} {H : Hp} {h : PH}
theorem atI_ok {ds : List D} {vs : List V} (r : RelDs K H ds vs) {i : Int} {d : D} (e : atI ds i = some d) : ∃ v, atI vs i = some v ∧ RelD K H d v := by
  unfold atI at e ⊢
  rw [r.len]
  cases e1 : ixN ds.length i with
  | none => rw [e1] at e; cases e
  | some j =>
    rw [e1] at e
    exact r.get' j d e
theorem keyD_kV {k : D} {kk : Key} (e : keyD k = some kk) {v : V} (r : RelD K H k v) : v = kV kk := by
  cases k with
  | int i => cases e; exact relInt r
  | str s => cases e; exact relStr r
  | _ => cases e
theorem eqF_key {a k : D} {ka kk : Key} (e : keyD a = some ka) (f : keyD k = some kk) : eqF a k = decide (ka = kk) := by
  cases a with
  | int i =>
    cases e
    cases k with
    | int j =>
      cases f
      show decide (i = j) = _
      exact decide_eq_decide.mpr ⟨fun q => by rw [q], fun q => Sum.inl.inj q⟩
    | str t => cases f; exact (decide_eq_false (fun q => nomatch q)).symm
    | _ => cases f
  | str s =>
    cases e
    cases k with
    | int j => cases f; exact (decide_eq_false (fun q => nomatch q)).symm
    | str t =>
      cases f
      show decide (s = t) = _
      exact decide_eq_decide.mpr ⟨fun q => by rw [q], fun q => mkS_inj.mp (Sum.inr.inj q)⟩
    | _ => cases f
  | _ => cases e
theorem eqK_key {a k : D} {ka kk : Key} (e : keyD a = some ka) (f : keyD k = some kk) : eqK a k = decide (ka = kk) := by
  rw [← eqF_key e f]
  cases a with
  | tup _ => cases e
  | _ => rfl
theorem eqFs_keys : ∀ {as bs : List D} {ka kb : List Key}, keysD as = some ka → keysD bs = some kb → eqFs as bs = decide (ka = kb)
  | [], [], _, _, e, f => by cases e; cases f; rfl
  | [], b :: bs, _, kb, e, f => by
    cases e
    have f' : (match keyD b, keysD bs with
      | some k, some ks => some (k :: ks)
      | _, _ => none) = some kb := f
    cases e1 : keyD b with
    | none => rw [e1] at f'; cases f'
    | some k =>
      cases e2 : keysD bs with
      | none => rw [e1, e2] at f'; cases f'
      | some ks => rw [e1, e2] at f'; cases f'; rfl
  | a :: as, [], ka, _, e, f => by
    cases f
    have f' : (match keyD a, keysD as with
      | some k, some ks => some (k :: ks)
      | _, _ => none) = some ka := e
    cases e1 : keyD a with
    | none => rw [e1] at f'; cases f'
    | some k =>
      cases e2 : keysD as with
      | none => rw [e1, e2] at f'; cases f'
      | some ks => rw [e1, e2] at f'; cases f'; rfl
  | a :: as, b :: bs, ka, kb, e, f => by
    have e' : (match keyD a, keysD as with
      | some k, some ks => some (k :: ks)
      | _, _ => none) = some ka := e
    have f' : (match keyD b, keysD bs with
      | some k, some ks => some (k :: ks)
      | _, _ => none) = some kb := f
    cases e1 : keyD a with
    | none => rw [e1] at e'; cases e'
    | some k =>
      cases e2 : keysD as with
      | none => rw [e1, e2] at e'; cases e'
      | some ks =>
        cases f1 : keyD b with
        | none => rw [f1] at f'; cases f'
        | some l =>
          cases f2 : keysD bs with
          | none => rw [f1, f2] at f'; cases f'
          | some ls =>
            rw [e1, e2] at e'
            rw [f1, f2] at f'
            cases e'
            cases f'
            show (eqF a b && eqFs as bs) = _
            rw [eqF_key e1 f1, eqFs_keys e2 f2]
            by_cases c : k = l
            · by_cases c2 : ks = ls
              · simp [c, c2]
              · simp [c, c2]
            · simp [c]
theorem keysD_kV : ∀ {ks : List D} {kk : List Key} {vs : List V}, keysD ks = some kk → RelDs K H ks vs → vs = kk.map kV
  | [], _, _, e, r => by
    cases e
    simp only [RelDs] at r
    subst r
    rfl
  | k :: ks, kk, _, e, r => by
    have e' : (match keyD k, keysD ks with
      | some k, some ks => some (k :: ks)
      | _, _ => none) = some kk := e
    simp only [RelDs] at r
    obtain ⟨v, w, rfl, r1, r2⟩ := r
    cases e1 : keyD k with
    | none => rw [e1] at e'; cases e'
    | some l =>
      cases e2 : keysD ks with
      | none => rw [e1, e2] at e'; cases e'
      | some ls =>
        rw [e1, e2] at e'
        cases e'
        rw [keyD_kV e1 r1, keysD_kV e2 r2]
        rfl
theorem keysD_some : ∀ {ds : List D}, (ds.all fun d => match d with
    | .int _ => true
    | .str _ => true
    | _ => false) = true → ∃ kk, keysD ds = some kk
  | [], _ => ⟨[], rfl⟩
  | d :: ds, e => by
    rw [List.all_cons] at e
    obtain ⟨e1, e2⟩ := Bool.and_eq_true_iff.mp e
    obtain ⟨ls, hl⟩ := keysD_some e2
    cases d with
    | int i => exact ⟨.inl i :: ls, by simp only [keysD, keyD, hl]⟩
    | str i => exact ⟨.inr (mkS i) :: ls, by simp only [keysD, keyD, hl]⟩
    | _ => cases e1
/-- a key is a flat one, or a tuple of these -/
theorem keyOk_cases {k : D} (e : keyOk k = true) : (∃ kk, keyD k = some kk) ∨ ∃ ps kk, k = .tup ps ∧ keysD ps = some kk := by
  cases k with
  | int i => exact .inl ⟨_, rfl⟩
  | str i => exact .inl ⟨_, rfl⟩
  | tup ds =>
    obtain ⟨kk, z⟩ := keysD_some e
    exact .inr ⟨ds, kk, rfl, z⟩
  | _ => cases e
section
variable {κ : Type} [DecidableEq κ] (isK : D → κ → Prop) (h2 : ∀ a k ka kk, isK a ka → isK k kk → eqK a k = decide (ka = kk))
/-- both sorts of dicts -/
def RelKv (K : PySem.W.Frag) (H : Hp) : List (D × D) → List (κ × V) → Prop
  | [], vs => vs = []
  | (k, d) :: ds, vs => ∃ kk v r, vs = (kk, v) :: r ∧ isK k kk ∧ RelD K H d v ∧ RelKv K H ds r
variable {isK}
include h2
theorem getD_gen {k : D} {kk : κ} (f : isK k kk) : ∀ {kvs : List (D × D)} {ps : List (κ × V)} {d : D}, RelKv isK K H kvs ps → getD? k kvs = some d → ∃ v, valV ps kk = some v ∧ RelD K H d v
  | [], _, _, _, e => by cases e
  | (a, w) :: r, ps, d, q, e => by
    obtain ⟨ka, v, rr, rfl, e1, e2, e3⟩ := q
    have e' : (if eqK a k = true then some w else getD? k r) = some d := e
    rw [h2 _ _ _ _ e1 f] at e'
    by_cases c : ka = kk
    · rw [if_pos (decide_eq_true c)] at e'
      cases e'
      exact ⟨v, valV_pos c, e2⟩
    · rw [if_neg (by simpa using c)] at e'
      obtain ⟨w', h1, h2⟩ := getD_gen f e3 e'
      exact ⟨w', by rw [valV_neg c]; exact h1, h2⟩
theorem getD_none {k : D} {kk : κ} (f : isK k kk) : ∀ {kvs : List (D × D)} {ps : List (κ × V)}, RelKv isK K H kvs ps → getD? k kvs = none → valV ps kk = none
  | [], ps, q, _ => by
    have q' : ps = [] := q
    rw [q']
    rfl
  | (a, w) :: r, ps, q, e => by
    obtain ⟨ka, v, rr, rfl, e1, e2, e3⟩ := q
    have e' : (if eqK a k = true then some w else getD? k r) = none := e
    rw [h2 _ _ _ _ e1 f] at e'
    by_cases c : ka = kk
    · rw [if_pos (decide_eq_true c)] at e'
      cases e'
    · rw [if_neg (by simpa using c)] at e'
      rw [valV_neg c]
      exact getD_none f e3 e'
theorem RelKv.any {k : D} {kk : κ} (f : isK k kk) : ∀ {kvs : List (D × D)} {ps : List (κ × V)}, RelKv isK K H kvs ps → (ps.any fun kv => decide (kv.1 = kk)) = kvs.any fun p => eqK p.1 k
  | [], ps, q => by
    have q' : ps = [] := q
    rw [q']
    rfl
  | (a, w) :: r, ps, q => by
    obtain ⟨ka, u, rr, rfl, e1, e2, e3⟩ := q
    rw [List.any_cons, List.any_cons, RelKv.any f e3, h2 _ _ _ _ e1 f]
theorem RelKv.maps {k v : D} {kk : κ} {vv : V} (f : isK k kk) (rv : RelD K H v vv) : ∀ {kvs : List (D × D)} {ps : List (κ × V)}, RelKv isK K H kvs ps →
    RelKv isK K H (kvs.map fun p => if eqK p.1 k = true then (p.1, v) else p) (ps.map fun kv => if kv.1 = kk then (kv.1, vv) else kv)
  | [], ps, q => by
    have q' : ps = [] := q
    rw [q']
    rfl
  | (a, w) :: r, ps, q => by
    obtain ⟨ka, u, rr, rfl, e1, e2, e3⟩ := q
    rw [List.map_cons, List.map_cons]
    have ih := RelKv.maps f rv e3
    rw [h2 _ _ _ _ e1 f]
    by_cases c : ka = kk
    · rw [if_pos (decide_eq_true c), if_pos c]
      exact ⟨ka, vv, _, rfl, e1, rv, ih⟩
    · rw [if_neg (by simpa using c), if_neg c]
      exact ⟨ka, u, _, rfl, e1, e2, ih⟩
omit h2 in
theorem RelKv.snoc {k v : D} {kk : κ} {vv : V} (f : isK k kk) (rv : RelD K H v vv) : ∀ {kvs : List (D × D)} {ps : List (κ × V)}, RelKv isK K H kvs ps → RelKv isK K H (kvs ++ [(k, v)]) (ps ++ [(kk, vv)])
  | [], ps, q => by
    have q' : ps = [] := q
    rw [q']
    exact ⟨kk, vv, [], rfl, f, rv, rfl⟩
  | (a, w) :: r, ps, q => by
    obtain ⟨ka, u, rr, rfl, e1, e2, e3⟩ := q
    exact ⟨ka, u, rr ++ [(kk, vv)], rfl, e1, e2, RelKv.snoc f rv e3⟩
theorem setKV_gen {k v : D} {kk : κ} {vv : V} (f : isK k kk) (rv : RelD K H v vv) {kvs : List (D × D)} {ps : List (κ × V)} (q : RelKv isK K H kvs ps) : RelKv isK K H (setKV k v kvs) (putK ps kk vv) := by
  unfold setKV putK
  rw [q.any h2 f]
  by_cases c : (kvs.any fun p => eqK p.1 k) = true
  · rw [if_pos c, if_pos c]
    exact q.maps h2 f rv
  · rw [if_neg c, if_neg c]
    exact q.snoc f rv
omit h2 in
theorem RelKv.len : ∀ {kvs : List (D × D)} {ps : List (κ × V)}, RelKv isK K H kvs ps → ps.length = kvs.length
  | [], ps, e => by
    have e' : ps = [] := e
    rw [e']
    rfl
  | (_, _) :: r, _, ⟨_, _, rr, e, _, _, e3⟩ => by
    rw [e]
    simp [RelKv.len e3]
end
abbrev isKD : D → Key → Prop := fun k kk => keyD k = some kk
abbrev isKT : D → List Key → Prop := fun k kk => ∃ ps, k = .tup ps ∧ keysD ps = some kk
theorem kd2 : ∀ (a k : D) (ka kk : Key), isKD a ka → isKD k kk → eqK a k = decide (ka = kk) := fun _ _ _ _ e f => eqK_key e f
theorem kt2 : ∀ (a k : D) (ka kk : List Key), isKT a ka → isKT k kk → eqK a k = decide (ka = kk) := fun _ _ _ _ ⟨_, e1, e⟩ ⟨_, f1, f⟩ => by
  rw [e1, f1]
  exact eqFs_keys e f
theorem relK_gen : ∀ {kvs : List (D × D)} {ps : List (Key × V)}, RelK K H kvs ps ↔ RelKv isKD K H kvs ps
  | [], ps => Iff.rfl
  | (k, d) :: r, ps => ⟨fun ⟨kk, v, rr, a, b, c, e⟩ => ⟨kk, v, rr, a, b, c, relK_gen.mp e⟩, fun ⟨kk, v, rr, a, b, c, e⟩ => ⟨kk, v, rr, a, b, c, relK_gen.mpr e⟩⟩
theorem relKT_gen : ∀ {kvs : List (D × D)} {ps : List (List Key × V)}, RelKT K H kvs ps ↔ RelKv isKT K H kvs ps
  | [], ps => Iff.rfl
  | (k, d) :: r, ps => ⟨fun ⟨pp, kk, v, rr, a, b, b2, c, e⟩ => ⟨kk, v, rr, a, ⟨pp, b, b2⟩, c, relKT_gen.mp e⟩, fun ⟨kk, v, rr, a, ⟨pp, b, b2⟩, c, e⟩ => ⟨pp, kk, v, rr, a, b, b2, c, relKT_gen.mpr e⟩⟩
theorem flat_notT {k : D} {kk : Key} (e : keyD k = some kk) {as : List D} : eqK (.tup as) k = false := by
  cases k with
  | tup _ => cases e
  | _ => rfl
theorem tup_notF {a : D} {ka : Key} (e : keyD a = some ka) {as : List D} : eqK a (.tup as) = false := by
  cases a with
  | tup _ => cases e
  | _ => rfl
theorem getD_mixT {k : D} {kk : Key} (f : keyD k = some kk) : ∀ {kvs : List (D × D)} {ps : List (List Key × V)}, RelKT K H kvs ps → getD? k kvs = none
  | [], _, _ => rfl
  | (a, w) :: r, ps, ⟨pp, ka, v, rr, _, e1, _, _, e3⟩ => by
    subst e1
    show (if eqK (.tup pp) k = true then some w else getD? k r) = none
    rw [flat_notT f, if_neg Bool.false_ne_true]
    exact getD_mixT f e3
theorem getD_mixK {as : List D} : ∀ {kvs : List (D × D)} {ps : List (Key × V)}, RelK K H kvs ps → getD? (.tup as) kvs = none
  | [], _, _ => rfl
  | (a, w) :: r, ps, ⟨ka, v, rr, _, e1, _, e3⟩ => by
    show (if eqK a (.tup as) = true then some w else getD? (.tup as) r) = none
    rw [tup_notF e1, if_neg Bool.false_ne_true]
    exact getD_mixK e3
/-- what a told dict holds at a key -/
theorem dget_ok (rh : RelH K H h) {a : Addr} {kvs : List (D × D)} (ha : h a = some (.dct kvs)) {k : D} (ok : keyOk k = true) {y : V} (ry : RelD K H k y) {d : D} (e : getD? k kvs = some d) : ∃ v, DGet H a y (some v) ∧ RelD K H d v := by
  rcases keyOk_cases ok with ⟨kk, f⟩ | ⟨ps, kk, rfl, f⟩
  · rcases rh a _ ha with ⟨ps, hp, rk⟩ | ⟨ps, hp, rk⟩
    · obtain ⟨v, hv, rv⟩ := getD_gen kd2 f (relK_gen.mp rk) e
      have g := DGet.k (k := kk) hp
      rw [hv] at g
      rw [keyD_kV f ry]
      exact ⟨v, g, rv⟩
    · rw [getD_mixT f rk] at e
      cases e
  · rcases rh a _ ha with ⟨qs, hp, rk⟩ | ⟨qs, hp, rk⟩
    · rw [getD_mixK rk] at e
      cases e
    · obtain ⟨v, hv, rv⟩ := getD_gen kt2 ⟨ps, rfl, f⟩ (relKT_gen.mp rk) e
      obtain ⟨b, vs, rfl, hb, rs⟩ := relTup ry
      rw [keysD_kV f rs] at hb
      have g := DGet.t (k := kk) hp hb
      rw [hv] at g
      exact ⟨v, g, rv⟩
end

/-! ### o[i], o[i] = v, cuts -/
section
variable {X : Cx}
theorem ix_any (hu : X.A.units + 64 < cLine) : IxR X (rOp X.K ixD) := by
  intro value slice pins s σ H x y v u Q I rx ry hq hs
  obtain ⟨d, e, h, Qd, rd, re, rh, b, out⟩ := hq
  have hu1 : X.A.units + 1 < cLine := by omega
  refine (ix_seq.or (ix_dict hu1)) value slice pins s σ H x y v u Q I rx ry ?_ hs
  have seq : ∀ (i : Int) (ds : List D) (a : Addr) (vs : List V), e = .int i → x = .ref a → (SqL X.K H a vs ∨ SqT X.K H a vs) → RelDs X.K H ds vs → (match atI ds i with
        | some z => Qd z h
        | none => False) → rIx X.K x y H Q := fun i ds a vs ei ex hsq rv bb => by
    subst ei ex
    cases e2 : atI ds i with
    | none => rw [e2] at bb; exact bb.elim
    | some z =>
      rw [e2] at bb
      obtain ⟨w, hw, rw'⟩ := atI_ok rv e2
      cases relInt re
      rcases hsq with hsq | hsq
      · exact .inl ⟨a, vs, i, w, rfl, rfl, hsq, hw, out.at rh bb rw'⟩
      · exact .inr (.inl ⟨a, vs, i, w, rfl, rfl, hsq, hw, out.at rh bb rw'⟩)
  cases d with
  | str z =>
    cases e with
    | int i =>
      left
      obtain ⟨hz, b⟩ := (show z.length ≤ sizeLine ∧ (match atI z i with
        | some c => Qd (.str [c]) h
        | none => False) from b)
      cases relStr rd; cases relInt re
      cases e2 : atI z i with
      | none => rw [e2] at b; exact b.elim
      | some c =>
        rw [e2] at b
        exact .inr (.inr ⟨mkS z, i, c, rfl, rfl, by rw [mkS_len]; exact hz, by simpa using e2, out.str rh b⟩)
    | _ => exact False.elim b
  | tup ds =>
    cases e with
    | int i =>
      obtain ⟨a, vs, ex, ht, rv⟩ := relTup rd
      exact .inl (seq i ds a vs rfl ex (.inr (.of ht)) rv b)
    | _ => exact False.elim b
  | rol ds =>
    cases e with
    | int i =>
      obtain ⟨a, vs, ex, ht, rv⟩ := rdL_ok (ds := ds) rh rd rfl
      exact .inl (seq i ds a vs rfl ex (.inl ht) rv b)
    | _ => exact False.elim b
  | ref a =>
    have b2 : (match h a with
      | some (.lst ds) => match e with
        | .int i => match atI ds i with
          | some d => Qd d h
          | none => False
        | _ => False
      | some (.dct kvs) => keyOk e = true ∧ match getD? e kvs with
        | some v => Qd v h
        | none => False
      | _ => False) := by cases e <;> exact b
    cases relRef rd
    cases ho : h a with
    | none => rw [ho] at b2; exact b2.elim
    | some o =>
      rw [ho] at b2
      cases o with
      | lst ds =>
        obtain ⟨vs, hv, rv⟩ := rh a _ ho
        cases e with
        | int i => exact .inl (seq i ds a vs rfl rfl (.inl (.of hv)) rv b2)
        | _ => exact False.elim b2
      | dct kvs =>
        right
        obtain ⟨ok, b2⟩ := b2
        cases e2 : getD? e kvs with
        | none => rw [e2] at b2; exact b2.elim
        | some z =>
          rw [e2] at b2
          obtain ⟨w, g, rw'⟩ := dget_ok rh ho ok re e2
          exact ⟨a, w, rfl, g, out.at rh b2 rw'⟩
      | _ => exact False.elim b2
  | non => cases e <;> exact False.elim b
  | bl _ => cases e <;> exact False.elim b
  | int _ => cases e <;> exact False.elim b

def rSet (K : PySem.W.Frag) : TSet := fun o i v H Q => ∃ d e w h Qd, RelD K H d o ∧ RelD K H e i ∧ RelD K H w v ∧ RelH K H h ∧ setD d e w h Qd ∧ ∀ h' H', Qd h' → RelH K H' h' → Frm H h H' h' → Q H'
theorem set_any (hu : X.A.units + 64 < cLine) : PSet X (rSet X.K) := by
  intro pins s σ H o i v ov iv u Q I ro ri rv hq
  obtain ⟨d, e, w, h, Qd, rd, re, rw', rh, b, out⟩ := hq
  have hu1 : X.A.units + 1 < cLine := by omega
  refine (PSet.or set_list (set_dict hu1)) pins s σ H o i v ov iv u Q I ro ri rv ?_
  cases d with
  | ref a =>
    cases relRef rd
    cases ho : h a with
    | none => simp only [setD, ho] at b
    | some oo =>
      have nt := rh.noT ho
      have b2 := b
      simp only [setD, ho] at b2
      cases oo with
      | lst ds =>
        obtain ⟨vs, hv, rvs⟩ := rh a _ ho
        cases e with
        | int k =>
          cases e1 : ixN ds.length k with
          | none =>
            have b3 : (match ixN ds.length k with
              | some j => put a (.lst (ds.set j w)) h Qd
              | none => False) := b2
            rw [e1] at b3; exact b3.elim
          | some j =>
            have b3 : (match ixN ds.length k with
              | some j => put a (.lst (ds.set j w)) h Qd
              | none => False) := b2
            rw [e1] at b3
            cases relInt re
            refine .inl ⟨a, vs, k, j, rfl, rfl, hv, by rw [rvs.len]; exact e1, ?_⟩
            obtain ⟨h', q1, q2, q3⟩ := put_ok (u := .lst (vs.set j v)) rh ho b3 ⟨_, upd_same, (rvs.set j rw').keep (Stay.upd.keeps nt)⟩
            exact out h' _ q1 q2 q3
        | _ => exact False.elim b2
      | dct kvs =>
        right
        obtain ⟨ne, hl, ok, lk, b2⟩ := b2
        rcases keyOk_cases ok with ⟨kk, f⟩ | ⟨qs, kk, rfl, f⟩
        · rcases rh a _ ho with ⟨ps, hp, rk⟩ | ⟨ps, hp, rk⟩
          · have rk' := setKV_gen kd2 f rw' (relK_gen.mp rk)
            refine ⟨a, upd H a (.dK (putK ps kk v)), rfl, ?_, ?_⟩
            · rw [keyD_kV f re]
              exact DPut.k hp (by rw [(relK_gen.mp rk).len]; exact hl)
            · obtain ⟨h', q1, q2, q3⟩ := put_ok (u := .dK (putK ps kk v)) rh ho b2 (.inl ⟨_, upd_same, (relK_gen.mpr rk').keep (Stay.upd.keeps nt)⟩)
              exact out h' _ q1 q2 q3
          · exfalso
            cases kvs with
            | nil => exact ne rfl
            | cons p r =>
              obtain ⟨pp, _, _, _, _, e1, _⟩ := (show RelKT X.K H ((p.1, p.2) :: r) ps from rk)
              cases e with
              | tup _ => cases f
              | _ =>
                have lk' : (((match p.1 with
                  | .tup _ => false
                  | _ => true) && r.all fun p => match p.1 with
                  | .tup _ => false
                  | _ => true) : Bool) = true := lk
                rw [e1] at lk'
                cases lk'
        · rcases rh a _ ho with ⟨ps, hp, rk⟩ | ⟨ps, hp, rk⟩
          · exfalso
            cases kvs with
            | nil => exact ne rfl
            | cons p r =>
              obtain ⟨_, _, _, _, e1, _⟩ := (show RelK X.K H ((p.1, p.2) :: r) ps from rk)
              have lk' : (((match p.1 with
                | .tup _ => true
                | _ => false) && r.all fun p => match p.1 with
                | .tup _ => true
                | _ => false) : Bool) = true := lk
              obtain ⟨l1, _⟩ := Bool.and_eq_true_iff.mp lk'
              cases hp1 : p.1 with
              | tup _ => rw [hp1] at e1; cases e1
              | _ => rw [hp1] at l1; cases l1
          · have rk' := setKV_gen kt2 ⟨qs, rfl, f⟩ rw' (relKT_gen.mp rk)
            obtain ⟨bb, vs, rfl, hb, rs⟩ := relTup re
            rw [keysD_kV f rs] at hb
            refine ⟨a, upd H a (.dT (putK ps kk v)), rfl, DPut.t hp hb (by rw [(relKT_gen.mp rk).len]; exact hl), ?_⟩
            obtain ⟨h', q1, q2, q3⟩ := put_ok (u := .dT (putK ps kk v)) rh ho b2 (.inr ⟨_, upd_same, (relKT_gen.mpr rk').keep (Stay.upd.keeps nt)⟩)
            exact out h' _ q1 q2 q3
      | _ => exact False.elim b2
  | _ => exact False.elim b

/-- o[lo:hi] -/
def rSl (K : PySem.W.Frag) : V → Option Int → Option Int → Hp → VK → Prop := fun x lo hi H Q => ∃ d h Qd, RelD K H d x ∧ RelH K H h ∧ slD d lo hi h Qd ∧ Out K H h Qd Q
end
end Lit
namespace Lit
open PySem PySem.Spec PyProof.Rows L2
section
variable {X : Cx}
theorem sl_any : SlR X (rSl X.K) := by
  intro pins s σ H x v vl vu lo hi sl Q I rx hs pl pu hq
  obtain ⟨d, h, Qd, rd, rh, b, out⟩ := hq
  have viaL : ∀ ds, rdL h d = some ds → alloc (.lst (cutL ds lo hi)) h Qd → rSlL X.K x lo hi H Q := fun ds e1 bb => by
    obtain ⟨a, vs, rfl, hsq, rv⟩ := rdL_ok rh rd e1
    exact ⟨a, vs, rfl, hsq, fun p hp => out.lst rh hp bb (rv.cut lo hi)⟩
  refine (sl_str.or (sl_tupA.or sl_list)) pins s σ H x v vl vu lo hi sl Q I rx hs pl pu ?_
  cases d with
  | str z =>
    left
    obtain ⟨hz, bb⟩ := (show z.length ≤ sizeLine ∧ Qd (.str (cutL z lo hi)) h from b)
    cases relStr rd
    refine ⟨mkS z, rfl, by rw [mkS_len]; exact hz, ?_⟩
    have e : cutS (mkS z) lo hi = mkS (cutL z lo hi) := by
      unfold cutS cutL
      rw [mkS_len]
    rw [e]
    exact out.str rh bb
  | tup ds =>
    right; left
    obtain ⟨a, vs, rfl, ht, rv⟩ := relTup rd
    have bb : Qd (.tup (cutL ds lo hi)) h := b
    refine ⟨a, vs, rfl, .of ht, fun ⟨e1, e2⟩ => ?_, fun _ p hp => out.tup rh hp bb (rv.cut lo hi)⟩
    have e : cutL ds lo hi = ds := by
      unfold cutL
      rw [← rv.len, e1, e2, List.drop_zero, Nat.sub_zero, rv.len, List.take_length]
    rw [e] at bb
    exact out.at rh bb rd
  | ref a =>
    right; right
    cases e1 : rdL h (.ref a) with
    | none => simp only [slD, e1] at b
    | some ds =>
      simp only [slD, e1] at b
      exact viaL ds e1 b
  | rol es =>
    right; right
    exact viaL es rfl b
  | non => simp only [slD, rdL] at b
  | bl _ => simp only [slD, rdL] at b
  | int _ => simp only [slD, rdL] at b

/-! ### built-ins of one value -/
def rB1 (K : PySem.W.Frag) (f : B1) : List V → Hp → VK → Prop := fun xs H Q => ∃ x d h Qd, xs = [x] ∧ RelD K H d x ∧ RelH K H h ∧ b1D f d h Qd ∧ Out K H h Qd Q
theorem b1_len : CallR X (.builtin "len") (rB1 X.K .len) := by
  intro pins s σ H xs us Q I rs hq
  obtain ⟨x, d, h, Qd, rfl, rd, rh, b, out⟩ := hq
  refine (call_len_str.or (call_len_seq.or (call_lenD.or call_len_dT))) pins s σ H _ us Q I rs ?_
  cases d with
  | str z =>
    left
    obtain ⟨hz, bb⟩ := (show z.length ≤ sizeLine ∧ Qd (.int z.length) h from b)
    cases relStr rd
    refine ⟨mkS z, rfl, by rw [mkS_len]; exact hz, ?_⟩
    rw [mkS_len]
    exact out.int rh bb
  | tup ds =>
    right; left
    obtain ⟨a, vs, rfl, ht, rv⟩ := relTup rd
    refine ⟨a, vs, rfl, .inr (.of ht), ?_⟩
    rw [rv.len]
    exact out.int rh b
  | rol ds =>
    right; left
    obtain ⟨a, vs, rfl, ht, rv⟩ := rdL_ok (ds := ds) rh rd rfl
    refine ⟨a, vs, rfl, .inl ht, ?_⟩
    rw [rv.len]
    exact out.int rh b
  | ref a =>
    right
    cases ho : h a with
    | none => simp only [b1D, rdQ, rdL, ho] at b
    | some o =>
      cases o with
      | lst ds =>
        left
        simp only [b1D, rdQ, rdL, ho] at b
        obtain ⟨vs, hv, rv⟩ := rh a _ ho
        cases relRef rd
        refine ⟨a, vs, rfl, .inl (.of hv), ?_⟩
        rw [rv.len]
        exact out.int rh b
      | dct kvs =>
        simp only [b1D, rdQ, rdL, ho] at b
        cases relRef rd
        right
        rcases rh a _ ho with ⟨ps, hp, rk⟩ | ⟨ps, hp, rk⟩
        · left
          refine ⟨a, ps, rfl, hp, ?_⟩
          rw [(relK_gen.mp rk).len]
          exact out.int rh b
        · right
          refine ⟨a, ps, rfl, hp, ?_⟩
          rw [(relKT_gen.mp rk).len]
          exact out.int rh b
      | ins _ _ => simp only [b1D, rdQ, rdL, ho] at b
      | exc _ _ => simp only [b1D, rdQ, rdL, ho] at b
  | non => simp only [b1D, rdQ, rdL] at b
  | bl _ => simp only [b1D, rdQ, rdL] at b
  | int _ => simp only [b1D, rdQ, rdL] at b
theorem b1_sum (hc : X.calm = true) : CallR X (.builtin "sum") (rB1 X.K .sum) := by
  intro pins s σ H xs us Q I rs hq
  obtain ⟨x, d, h, Qd, rfl, rd, rh, b, out⟩ := hq
  cases e1 : rdL h d with
  | none => simp only [b1D, e1] at b
  | some ds =>
    cases e2 : intsOf ds with
    | none => simp only [b1D, e1, e2] at b
    | some ns =>
      simp only [b1D, e1, e2] at b
      obtain ⟨a, vs, rfl, hs, rv⟩ := rdL_ok rh rd e1
      have ev := ints_ok e2 rv
      subst ev
      exact cr_sum hc pins s σ H _ us Q I rs ⟨a, ns, rfl, hs, out.int rh b⟩
theorem b1_all (hc : X.calm = true) : CallR X (.builtin "all") (rB1 X.K .all) := by
  intro pins s σ H xs us Q I rs hq
  obtain ⟨x, d, h, Qd, rfl, rd, rh, b, out⟩ := hq
  cases e1 : rdL h d with
  | none => simp only [b1D, e1] at b
  | some ds =>
    cases e2 : blsOf ds with
    | none => simp only [b1D, e1, e2] at b
    | some ns =>
      simp only [b1D, e1, e2] at b
      obtain ⟨a, vs, rfl, hs, rv⟩ := rdL_ok rh rd e1
      have ev := bls_ok e2 rv
      subst ev
      exact cr_all hc pins s σ H _ us Q I rs ⟨a, ns, rfl, hs, out.bl rh b⟩
theorem b1_any (hc : X.calm = true) : CallR X (.builtin "any") (rB1 X.K .any) := by
  intro pins s σ H xs us Q I rs hq
  obtain ⟨x, d, h, Qd, rfl, rd, rh, b, out⟩ := hq
  cases e1 : rdL h d with
  | none => simp only [b1D, e1] at b
  | some ds =>
    cases e2 : blsOf ds with
    | none => simp only [b1D, e1, e2] at b
    | some ns =>
      simp only [b1D, e1, e2] at b
      obtain ⟨a, vs, rfl, hs, rv⟩ := rdL_ok rh rd e1
      have ev := bls_ok e2 rv
      subst ev
      exact cr_any hc pins s σ H _ us Q I rs ⟨a, ns, rfl, hs, out.bl rh b⟩
theorem b1_max (hc : X.calm = true) : CallR X (.builtin "max") (rB1 X.K .maxL) := by
  intro pins s σ H xs us Q I rs hq
  obtain ⟨x, d, h, Qd, rfl, rd, rh, b, out⟩ := hq
  cases e1 : rdL h d with
  | none => simp only [b1D, e1] at b
  | some ds =>
    cases e2 : intsOf ds with
    | none => simp only [b1D, e1, e2] at b
    | some ns =>
      cases ns with
      | nil => simp only [b1D, e1, e2] at b
      | cons n ns =>
        simp only [b1D, e1, e2] at b
        obtain ⟨a, vs, rfl, hs, rv⟩ := rdL_ok rh rd e1
        have ev := ints_ok e2 rv
        subst ev
        refine cr_max hc pins s σ H _ us Q I rs ⟨a, n :: ns, rfl, hs, Nat.succ_pos _, fun m hm hy => ?_⟩
        have e3 : m = maxI n ns := Int.le_antisymm (maxI_ge ns n m hm) (hy _ (maxI_mem ns n))
        rw [e3]
        exact out.int rh b
theorem b1_min (hc : X.calm = true) : CallR X (.builtin "min") (rB1 X.K .minL) := by
  intro pins s σ H xs us Q I rs hq
  obtain ⟨x, d, h, Qd, rfl, rd, rh, b, out⟩ := hq
  cases e1 : rdL h d with
  | none => simp only [b1D, e1] at b
  | some ds =>
    cases e2 : intsOf ds with
    | none => simp only [b1D, e1, e2] at b
    | some ns =>
      cases ns with
      | nil => simp only [b1D, e1, e2] at b
      | cons n ns =>
        simp only [b1D, e1, e2] at b
        obtain ⟨a, vs, rfl, hs, rv⟩ := rdL_ok rh rd e1
        have ev := ints_ok e2 rv
        subst ev
        refine cr_min hc pins s σ H _ us Q I rs ⟨a, n :: ns, rfl, hs, Nat.succ_pos _, fun m hm hy => ?_⟩
        have e3 : m = minI n ns := Int.le_antisymm (hy _ (minI_mem ns n)) (minI_le ns n m hm)
        rw [e3]
        exact out.int rh b
theorem b1_int : CallR X (.type "int") (rB1 X.K .int) := by
  intro pins s σ H xs us Q I rs hq
  obtain ⟨x, d, h, Qd, rfl, rd, rh, b, out⟩ := hq
  refine (call_int1.or call_int_str) pins s σ H _ us Q I rs ?_
  cases d with
  | int i => cases relInt rd; exact .inl (.inl ⟨i, rfl, out.int rh b⟩)
  | bl i => cases relBl rd; exact .inl (.inr ⟨i, rfl, out.int rh b⟩)
  | str z =>
    cases relStr rd
    cases e1 : PySem.intText? (mkS z) with
    | none => simp only [b1D, e1] at b
    | some n =>
      simp only [b1D, e1] at b
      exact .inr ⟨mkS z, n, rfl, e1, by rw [mkS_len]; exact b.1, out.int rh b.2⟩
  | _ => simp only [b1D] at b
theorem b1_str : CallR X (.type "str") (rB1 X.K .str) := by
  intro pins s σ H xs us Q I rs hq
  obtain ⟨x, d, h, Qd, rfl, rd, rh, b, out⟩ := hq
  cases d with
  | int i =>
    cases relInt rd
    obtain ⟨hz, bb⟩ := (show i.natAbs.log2 < 1920 ∧ Qd (.str (showN i)) h from b)
    refine call_str_int pins s σ H _ us Q I rs ⟨i, rfl, hz, ?_⟩
    have z := out.str rh bb
    unfold showN at z
    rw [mkS_of] at z
    exact z
  | _ => simp only [b1D] at b
theorem b1_list : CallR X (.type "list") (rB1 X.K .list) := by
  intro pins s σ H xs us Q I rs hq
  obtain ⟨x, d, h, Qd, rfl, rd, rh, b, out⟩ := hq
  cases e1 : rdQ h d with
  | none => simp only [b1D, e1] at b
  | some ds =>
    simp only [b1D, e1] at b
    obtain ⟨a, vs, rfl, hs, rv⟩ := rdQ_ok rh rd e1
    exact call_list_of pins s σ H _ us Q I rs ⟨a, vs, rfl, hs, fun p hp => out.lst rh hp b rv⟩
theorem b1_tuple : CallR X (.type "tuple") (rB1 X.K .tuple) := by
  intro pins s σ H xs us Q I rs hq
  obtain ⟨x, d, h, Qd, rfl, rd, rh, b, out⟩ := hq
  cases d with
  | tup ds =>
    simp only [b1D, rdQ] at b
    obtain ⟨a, vs, rfl, ht, rv⟩ := relTup rd
    exact call_tuple_of pins s σ H _ us Q I rs ⟨a, vs, rfl, .inr ⟨.of ht, out.at rh b rd⟩⟩
  | ref c =>
    cases e1 : rdL h (.ref c) with
    | none => simp only [b1D, rdQ, e1] at b
    | some ds =>
      simp only [b1D, rdQ, e1] at b
      obtain ⟨a, vs, rfl, hs, rv⟩ := rdL_ok rh rd e1
      exact call_tuple_of pins s σ H _ us Q I rs ⟨a, vs, rfl, .inl ⟨hs, fun p hp => out.tup rh hp b rv⟩⟩
  | rol ds =>
    simp only [b1D, rdQ, rdL] at b
    obtain ⟨a, vs, rfl, hs, rv⟩ := rdL_ok (ds := ds) rh rd rfl
    exact call_tuple_of pins s σ H _ us Q I rs ⟨a, vs, rfl, .inl ⟨hs, fun p hp => out.tup rh hp b rv⟩⟩
  | non => simp only [b1D, rdQ, rdL] at b
  | bl _ => simp only [b1D, rdQ, rdL] at b
  | int _ => simp only [b1D, rdQ, rdL] at b
  | str _ => simp only [b1D, rdQ, rdL] at b
theorem sh_none : mkS (PyData.none).shown.cps.toList = (PyData.none).shown := mkS_of _
theorem b1_repr (hu : X.A.units + 64 < cLine) (hg : X.A.guards = some []) : CallR X (.builtin "repr") (rB1 X.K .repr) := by
  intro pins s σ H xs us Q I rs hq
  obtain ⟨x, d, h, Qd, rfl, rd, rh, b, out⟩ := hq
  cases e1 : deref 12 h d with
  | none => simp only [b1D, e1] at b
  | some a =>
    simp only [b1D, e1] at b
    obtain ⟨hs, hdp, hnd, hz, bb⟩ := b
    have dp := deref_dp rh 12 d a x e1 rd
    obtain ⟨u, rfl, ru⟩ := vals1 rs
    obtain ⟨as, rr⟩ := Dp.reads I _ _ _ dp ru
    have z : Q (.str (toPD a).shown) H := by
      have z := out.str rh bb
      rwa [mkS_of] at z
    generalize toPD a = pd at dp rr hs hdp hnd hz z
    have fin : ∀ h' t tk, (∀ b o, s.heap.get? b = some o → h'.get? b = some o) → EP X pins σ Q (.str pd.shown t) { s with heap := h', toks := tk } := fun h' t tk k =>
      ⟨.str pd.shown, H, I.kept k, ⟨t, rfl⟩, z⟩
    have flat : ∀ v, (∀ t tk, EP X pins σ Q (.str v t) { s with toks := tk }) → v = pd.shown → True := fun _ _ _ => trivial
    cases dp with
    | non =>
      cases (show u = Value.none from ru)
      refine PySem.P.repr_of_none ?_
      have e := PyData.shown_none
      rw [← e]
      exact fin s.heap _ _ fun _ _ q => q
    | bl c =>
      cases (show u = Value.bool c from ru)
      refine PySem.P.repr_of_bool ?_
      have e := PyData.shown_bool c
      rw [← e]
      exact fin s.heap _ _ fun _ _ q => q
    | int i =>
      obtain ⟨t, rfl⟩ := (show ∃ t, u = Value.int i t from ru)
      have hs' : i.natAbs.log2 < 1920 := by simpa [PyData.showable] using hs
      refine PySem.P.repr_of_int hs' ?_
      have e := PyData.shown_int i
      have q := fin s.heap s.toks (s.toks + 1) fun _ _ q => q
      rw [e] at q
      exact q
    | str y =>
      obtain ⟨t, rfl⟩ := (show ∃ t, u = Value.str y t from ru)
      have e := PyData.shown_str y
      refine PySem.P.repr_of_str ?_ (by rw [← e]; exact hz)
      rw [← e]
      exact fin s.heap _ _ fun _ _ q => q
    | lst _ _ =>
      cases ru
      exact repr_of_reads' rr hs (fun q => by rw [hnd] at q; cases q) hg (by omega) (fun _ _ q => q) (fun h' t tk k => fin h' t tk k) hz
    | tup _ _ =>
      cases ru
      exact repr_of_reads' rr hs (fun q => by rw [hnd] at q; cases q) hg (by omega) (fun _ _ q => q) (fun h' t tk k => fin h' t tk k) hz

def rB2 (K : PySem.W.Frag) (f : B2) : List V → Hp → VK → Prop := fun xs H Q => ∃ x y d e h Qd, xs = [x, y] ∧ RelD K H d x ∧ RelD K H e y ∧ RelH K H h ∧ b2D f d e h Qd ∧ Out K H h Qd Q
theorem b2_max (hc : X.calm = true) : CallR X (.builtin "max") (rB2 X.K .max) := by
  intro pins s σ H xs us Q I rs hq
  obtain ⟨x, y, d, e, h, Qd, rfl, rd, re, rh, b, out⟩ := hq
  cases d with
  | int i =>
    cases e with
    | int j =>
      cases relInt rd; cases relInt re
      exact call_max2 hc pins s σ H _ us Q I rs ⟨i, j, rfl, out.int rh b⟩
    | _ => simp only [b2D] at b
  | _ => cases e <;> simp only [b2D] at b
theorem b2_min (hc : X.calm = true) : CallR X (.builtin "min") (rB2 X.K .min) := by
  intro pins s σ H xs us Q I rs hq
  obtain ⟨x, y, d, e, h, Qd, rfl, rd, re, rh, b, out⟩ := hq
  cases d with
  | int i =>
    cases e with
    | int j =>
      cases relInt rd; cases relInt re
      exact call_min2 hc pins s σ H _ us Q I rs ⟨i, j, rfl, out.int rh b⟩
    | _ => simp only [b2D] at b
  | _ => cases e <;> simp only [b2D] at b
end
end Lit
namespace Lit
open PySem PySem.Spec PyProof.Rows L2
def mthTy : Mth → String
  | .append | .extend | .pop | .popAt | .insert | .lindex => "list"
  | .split | .join | .upper | .sindex | .scount => "str"
  | .dget => "dict"
def mthId : Mth → String
  | .append => "list.append"
  | .extend => "list.extend"
  | .pop => "list.pop"
  | .popAt => "list.pop"
  | .insert => "list.insert"
  | .lindex => "list.index"
  | .split => "str.split"
  | .join => "str.join"
  | .upper => "str.upper"
  | .sindex => "str.index"
  | .scount => "str.count"
  | .dget => "dict.get"
def mthNm : Mth → Str
  | .append => "append"
  | .extend => "extend"
  | .pop => "pop"
  | .popAt => "pop"
  | .insert => "insert"
  | .lindex => "index"
  | .split => "split"
  | .join => "join"
  | .upper => "upper"
  | .sindex => "index"
  | .scount => "count"
  | .dget => "get"
theorem mth_attrs : ∀ m : Mth, PlainAttrs (mthTy m)
  | .append | .extend | .pop | .popAt | .insert | .lindex => PySem.F.plainAttrs_list
  | .split | .join | .upper | .sindex | .scount => PySem.F.plainAttrs_str
  | .dget => PySem.F.plainAttrs_dict
theorem mth_slot : ∀ m : Mth, Slot (mthTy m) (mthNm m) (mthId m)
  | .append => PySem.F.slot_list_append
  | .extend => PySem.F.slot_list_extend
  | .pop => PySem.F.slot_list_pop
  | .popAt => PySem.F.slot_list_pop
  | .insert => PySem.F.slot_list_insert
  | .lindex => PySem.F.slot_list_index
  | .split => PySem.F.slot_str_split
  | .join => PySem.F.slot_str_join
  | .upper => PySem.F.slot_str_upper
  | .sindex => PySem.F.slot_str_index
  | .scount => PySem.F.slot_str_count
  | .dget => PySem.F.slot_dict_get
theorem mth_type : ∀ m : Mth, typeOf (.builtin (mthId m)) = pure (.type "method_descriptor")
  | .append => PySem.F.type_list_append
  | .extend => PySem.F.type_list_extend
  | .pop => PySem.F.type_list_pop
  | .popAt => PySem.F.type_list_pop
  | .insert => PySem.F.type_list_insert
  | .lindex => PySem.F.type_list_index
  | .split => PySem.F.type_str_split
  | .join => PySem.F.type_str_join
  | .upper => PySem.F.type_str_upper
  | .sindex => PySem.F.type_str_index
  | .scount => PySem.F.type_str_count
  | .dget => PySem.F.type_dict_get
section
variable {K : PySem.W.Frag} {H : Hp} {h : PH}
theorem tyB_ok (rh : RelH K H h) {m : Mth} {d : D} {x : V} (rd : RelD K H d x) (e : tyB m d h = true) : tyV K (mthTy m) x H := by
  have lst : (rdM h d).isSome = true → tyV K "list" x H := fun q => by
    obtain ⟨ds, e1⟩ := Option.isSome_iff_exists.mp q
    obtain ⟨a, vs, _, rfl, hv, _⟩ := rdM_ok rh rd e1
    exact .inl ⟨rfl, vs, .of hv⟩
  have str : isStr d = true → tyV K "str" x H := fun q => by
    cases d with
    | str z => cases relStr rd; rfl
    | _ => cases q
  cases m with
  | append => exact lst e
  | extend => exact lst e
  | pop => exact lst e
  | popAt => exact lst e
  | insert => exact lst e
  | lindex => exact lst e
  | split => exact str e
  | join => exact str e
  | upper => exact str e
  | sindex => exact str e
  | scount => exact str e
  | dget =>
    cases d with
    | ref a =>
      cases ho : h a with
      | none => simp only [tyB, ho] at e; cases e
      | some o =>
        cases o with
        | dct kvs =>
          cases relRef rd
          rcases rh a _ ho with ⟨ps, hp, _⟩ | ⟨ps, hp, _⟩
          · exact .inr (.inr (.inl ⟨rfl, .inl ⟨ps, hp⟩⟩))
          · exact .inr (.inr (.inl ⟨rfl, .inr ⟨ps, hp⟩⟩))
        | _ => simp only [tyB, ho] at e; cases e
    | _ => cases e
theorem RelDs.eraseIdx : ∀ {ds : List D} {vs : List V} (i : Nat), RelDs K H ds vs → RelDs K H (ds.eraseIdx i) (vs.eraseIdx i)
  | [], _, _, r => by simp only [RelDs] at r; subst r; exact .nil
  | d :: ds, _, 0, r => by
    simp only [RelDs] at r
    obtain ⟨v, w, rfl, r1, r2⟩ := r
    exact r2
  | d :: ds, _, i + 1, r => by
    simp only [RelDs] at r
    obtain ⟨v, w, rfl, r1, r2⟩ := r
    exact .cons r1 (RelDs.eraseIdx i r2)
theorem RelDs.dropLast {ds : List D} {vs : List V} (r : RelDs K H ds vs) : RelDs K H ds.dropLast vs.dropLast := by
  rw [List.dropLast_eq_take, List.dropLast_eq_take, r.len]
  exact r.take _
theorem rel1 {d : D} {vs : List V} (r : RelDs K H [d] vs) : ∃ v, vs = [v] ∧ RelD K H d v := by
  simp only [RelDs] at r
  obtain ⟨v, w, rfl, r1, rfl⟩ := r
  exact ⟨v, rfl, r1⟩
theorem rel2 {d e : D} {vs : List V} (r : RelDs K H [d, e] vs) : ∃ v w, vs = [v, w] ∧ RelD K H d v ∧ RelD K H e w := by
  simp only [RelDs] at r
  obtain ⟨v, w, rfl, r1, v', w', rfl, r2, rfl⟩ := r
  exact ⟨v, v', rfl, r1, r2⟩
theorem rel0 {vs : List V} (r : RelDs K H [] vs) : vs = [] := by simpa only [RelDs] using r
end
/-- what a told dict has not at a key -/
theorem dget_no {K : PySem.W.Frag} {H : Hp} {h : PH} (rh : RelH K H h) {a : Addr} {kvs : List (D × D)} (ha : h a = some (.dct kvs)) (ne : kvs ≠ []) {k : D} (ok : keyOk k = true) (lk : likeKeys k kvs = true) {y : V} (ry : RelD K H k y) (e : getD? k kvs = none) : DGet H a y none := by
  rcases keyOk_cases ok with ⟨kk, f⟩ | ⟨qs, kk, rfl, f⟩
  · rcases rh a _ ha with ⟨ps, hp, rk⟩ | ⟨ps, hp, rk⟩
    · have g := DGet.k (k := kk) hp
      rw [getD_none kd2 f (relK_gen.mp rk) e] at g
      rw [keyD_kV f ry]
      exact g
    · exfalso
      cases kvs with
      | nil => exact ne rfl
      | cons p r =>
        obtain ⟨pp, _, _, _, _, e1, _⟩ := (show RelKT K H ((p.1, p.2) :: r) ps from rk)
        cases k with
        | tup _ => cases f
        | _ =>
          have lk' : (((match p.1 with
            | .tup _ => false
            | _ => true) && r.all fun p => match p.1 with
            | .tup _ => false
            | _ => true) : Bool) = true := lk
          rw [e1] at lk'
          cases lk'
  · rcases rh a _ ha with ⟨ps, hp, rk⟩ | ⟨ps, hp, rk⟩
    · exfalso
      cases kvs with
      | nil => exact ne rfl
      | cons p r =>
        obtain ⟨_, _, _, _, e1, _⟩ := (show RelK K H ((p.1, p.2) :: r) ps from rk)
        have lk' : (((match p.1 with
          | .tup _ => true
          | _ => false) && r.all fun p => match p.1 with
          | .tup _ => true
          | _ => false) : Bool) = true := lk
        obtain ⟨l1, _⟩ := Bool.and_eq_true_iff.mp lk'
        cases hp1 : p.1 with
        | tup _ => rw [hp1] at e1; cases e1
        | _ => rw [hp1] at l1; cases l1
    · obtain ⟨bb, vs, rfl, hb, rs⟩ := relTup ry
      rw [keysD_kV f rs] at hb
      have g := DGet.t (k := kk) hp hb
      rw [getD_none kt2 ⟨qs, rfl, f⟩ (relKT_gen.mp rk) e] at g
      exact g
def rMth (K : PySem.W.Frag) (m : Mth) : V → List V → Hp → VK → Prop := fun x xs H Q => ∃ d ds h Qd, RelD K H d x ∧ RelDs K H ds xs ∧ RelH K H h ∧ mthD m d ds h Qd ∧ Out K H h Qd Q
section
variable {X : Cx}
/-- a told list is put otherwise -/
theorem lput {K : PySem.W.Frag} {H : Hp} {h : PH} {Qd : D → PH → Prop} {Q : VK} {a : Addr} {ds es : List D} {ws : List V} {r : D} {v : V} (rh : RelH K H h) (out : Out K H h Qd Q) (ho : h a = some (.lst ds)) (rv : RelDs K H es ws)
    (rr : RelD K H r v) (b : put a (.lst es) h fun h' => Qd r h') : Q v (upd H a (.lst ws)) := by
  have nt := rh.noT ho
  obtain ⟨h', q1, q2, q3⟩ := put_ok (u := .lst ws) rh ho b ⟨_, upd_same, rv.keep (Stay.upd.keeps nt)⟩
  exact out r h' _ _ q1 (rr.keep (Stay.upd.keeps nt)) q2 q3
theorem mth_any (hu : X.A.units + 64 < cLine) (m : Mth) (hm : m ≠ .lindex) : MtR X (mthId m) (rMth X.K m) := by
  intro pins s σ H x xs v us Q I rx rs hq
  obtain ⟨d, ds, h, Qd, rd, rds, rh, b, out⟩ := hq
  cases m with
  | append =>
    cases ds with
    | nil => cases d <;> exact False.elim b
    | cons y t =>
      cases t with
      | cons _ _ => cases d <;> exact False.elim b
      | nil =>
        obtain ⟨vy, rfl, ry⟩ := rel1 rds
        cases d with
        | ref a =>
          cases ho : h a with
          | none => simp only [mthD, ho] at b
          | some o =>
            cases o with
            | lst es =>
              simp only [mthD, ho] at b
              obtain ⟨vs, hv, rv⟩ := rh a _ ho
              cases relRef rd
              refine mt_append pins s σ H _ _ v us Q I rx rs ⟨a, vs, vy, rfl, rfl, hv, by rw [rv.len]; exact b.1, ?_⟩
              exact lput (r := .non) rh out ho (rv.append (.one ry)) rfl b.2
            | _ => simp only [mthD, ho] at b
        | _ => exact False.elim b
  | extend =>
    cases ds with
    | nil => cases d <;> exact False.elim b
    | cons y t =>
      cases t with
      | cons _ _ => cases d <;> exact False.elim b
      | nil =>
        obtain ⟨vy, rfl, ry⟩ := rel1 rds
        cases d with
        | ref a =>
          cases y with
          | ref c =>
            cases ho : h a with
            | none => simp only [mthD, ho] at b
            | some o =>
              cases o with
              | lst es =>
                cases hc : h c with
                | none => simp only [mthD, ho, hc] at b
                | some oc =>
                  cases oc with
                  | lst fs =>
                    simp only [mthD, ho, hc] at b
                    obtain ⟨vs, hv, rv⟩ := rh a _ ho
                    obtain ⟨ws, hw, rw'⟩ := rh c _ hc
                    cases relRef rd
                    cases relRef ry
                    refine mt_extend pins s σ H _ _ v us Q I rx rs ⟨a, c, vs, ws, rfl, rfl, hv, hw, by rw [rv.len, rw'.len]; exact b.1, ?_⟩
                    exact lput (r := .non) rh out ho (rv.append rw') rfl b.2
                  | _ => simp only [mthD, ho, hc] at b
              | _ => simp only [mthD, ho] at b
          | _ => exact False.elim b
        | _ => exact False.elim b
  | pop =>
    cases ds with
    | cons _ _ => cases d <;> exact False.elim b
    | nil =>
      cases rel0 rds
      cases d with
      | ref a =>
        cases ho : h a with
        | none => simp only [mthD, ho] at b
        | some o =>
          cases o with
          | lst es =>
            cases e1 : es[es.length - 1]? with
            | none => simp only [mthD, ho, e1] at b
            | some y =>
              simp only [mthD, ho, e1] at b
              obtain ⟨vs, hv, rv⟩ := rh a _ ho
              obtain ⟨vy, hy, ry⟩ := rv.get' _ _ e1
              cases relRef rd
              refine mt_pop pins s σ H _ _ v us Q I rx rs ⟨a, vs, vy, rfl, rfl, hv, by rw [rv.len]; exact hy, ?_⟩
              exact lput rh out ho rv.dropLast ry b
          | _ => simp only [mthD, ho] at b
      | _ => exact False.elim b
  | popAt =>
    cases ds with
    | nil => cases d <;> exact False.elim b
    | cons y t =>
      cases t with
      | cons _ _ => cases y <;> cases d <;> exact False.elim b
      | nil =>
        obtain ⟨vy, rfl, ry⟩ := rel1 rds
        cases y with
        | int i =>
          cases d with
          | ref a =>
            cases ho : h a with
            | none => simp only [mthD, ho] at b
            | some o =>
              cases o with
              | lst es =>
                simp only [mthD, ho] at b
                obtain ⟨i1, i2, b⟩ := b
                cases e1 : ixN es.length i with
                | none => simp only [e1] at b
                | some k =>
                  cases e2 : es[k]? with
                  | none => simp only [e1, e2] at b
                  | some z =>
                    simp only [e1, e2] at b
                    obtain ⟨vs, hv, rv⟩ := rh a _ ho
                    obtain ⟨vz, hz, rz⟩ := rv.get' _ _ e2
                    cases relRef rd
                    cases relInt ry
                    refine mt_popAt pins s σ H _ _ v us Q I rx rs ⟨a, vs, i, k, vz, rfl, rfl, hv, i1, i2, by rw [rv.len]; exact (ixN_seq e1).1, hz, ?_⟩
                    exact lput rh out ho (rv.eraseIdx k) rz b
              | _ => simp only [mthD, ho] at b
          | _ => exact False.elim b
        | _ => cases d <;> exact False.elim b
  | insert =>
    cases ds with
    | nil => cases d <;> exact False.elim b
    | cons k t =>
      cases t with
      | nil => cases k <;> cases d <;> exact False.elim b
      | cons y t =>
        cases t with
        | cons _ _ => cases k <;> cases d <;> exact False.elim b
        | nil =>
          obtain ⟨vk, vy, rfl, rk, ry⟩ := rel2 rds
          cases k with
          | int i =>
            cases d with
            | ref a =>
              cases ho : h a with
              | none => simp only [mthD, ho] at b
              | some o =>
                cases o with
                | lst es =>
                  simp only [mthD, ho] at b
                  obtain ⟨l1, i1, i2, b⟩ := b
                  obtain ⟨vs, hv, rv⟩ := rh a _ ho
                  cases relRef rd
                  cases relInt rk
                  refine mt_insert pins s σ H _ _ v us Q I rx rs ⟨a, vs, i, vy, rfl, rfl, hv, by rw [rv.len]; exact l1, i1, i2, ?_⟩
                  exact lput (r := .non) rh out ho (((rv.take _).append (.one ry)).append (rv.drop _)) rfl b
                | _ => simp only [mthD, ho] at b
            | _ => exact False.elim b
          | _ => cases d <;> exact False.elim b
  | lindex => exact absurd rfl hm
  | split =>
    cases ds with
    | nil => cases d <;> exact False.elim b
    | cons y t =>
      cases t with
      | cons _ _ => cases y <;> cases d <;> exact False.elim b
      | nil =>
        obtain ⟨vy, rfl, ry⟩ := rel1 rds
        cases y with
        | str z =>
          cases d with
          | str a =>
            simp only [mthD] at b
            obtain ⟨ne, hz, b⟩ := b
            cases relStr rd; cases relStr ry
            refine mt_split pins s σ H _ _ v us Q I rx rs ⟨mkS a, mkS z, rfl, rfl, ?_, by rw [mkS_len]; exact hz, fun p hp => ?_⟩
            · rw [mkS_len]
              cases z with
              | nil => exact absurd rfl ne
              | cons _ _ => rfl
            · exact out.lst rh hp b (RelDs.strs _)
          | _ => exact False.elim b
        | _ => cases d <;> exact False.elim b
  | join =>
    cases ds with
    | nil => cases d <;> exact False.elim b
    | cons y t =>
      cases t with
      | cons _ _ => cases d <;> exact False.elim b
      | nil =>
        obtain ⟨vy, rfl, ry⟩ := rel1 rds
        cases e1 : rdQ h y with
        | none => cases d <;> simp only [mthD, e1] at b
        | some es =>
          cases e2 : strsOf es with
          | none => cases d <;> simp only [mthD, e1, e2] at b
          | some ys =>
            cases d with
            | str a =>
              simp only [mthD, e1, e2] at b
              obtain ⟨p, vs, rfl, hsq, rv⟩ := rdQ_ok rh ry e1
              have ev := strs_ok e2 rv
              subst ev
              cases relStr rd
              have z := out.str rh b.2
              rw [mkS_of] at z
              refine mt_join pins s σ H _ _ v us Q I rx rs ⟨mkS a, p, ys.map mkS, rfl, rfl, hsq, ?_, z⟩
              have e3 : (ys.map mkS).map (·.length) = ys.map (·.length) := by
                rw [List.map_map]
                exact List.map_congr_left fun t _ => mkS_len t
              rw [e3, List.length_map, mkS_len]
              exact b.1
            | _ => simp only [mthD, e1] at b
  | upper =>
    cases ds with
    | cons _ _ => cases d <;> exact False.elim b
    | nil =>
      cases rel0 rds
      cases d with
      | str a =>
        simp only [mthD] at b
        cases relStr rd
        have z := out.str rh b.2
        rw [mkS_of] at z
        exact mt_upper pins s σ H _ _ v us Q I rx rs ⟨mkS a, rfl, rfl, by rw [mkS_len]; exact b.1, z⟩
      | _ => exact False.elim b
  | sindex =>
    cases ds with
    | nil => cases d <;> exact False.elim b
    | cons y t =>
      cases t with
      | cons _ _ => cases y <;> cases d <;> exact False.elim b
      | nil =>
        obtain ⟨vy, rfl, ry⟩ := rel1 rds
        cases y with
        | str z =>
          cases d with
          | str a =>
            cases e1 : Txt.index0 (mkS a) (mkS z) with
            | none => simp only [mthD, e1] at b
            | some k =>
              simp only [mthD, e1] at b
              cases relStr rd; cases relStr ry
              cases rs with
              | cons r1 rs =>
                cases rs
                obtain ⟨t1, rfl⟩ := rx
                obtain ⟨t2, rfl⟩ := r1
                have e2 : (Builtin.Str.occurrences (mkS a) (mkS z) 0 (mkS a).length 1).head? = some k := e1
                cases q : Builtin.Str.occurrences (mkS a) (mkS z) 0 (mkS a).length 1 with
                | nil => rw [q] at e2; cases e2
                | cons k' rest =>
                  rw [q] at e2
                  cases e2
                  exact PySem.SC.index q ⟨.int (k : Nat), H, I.tok _, ⟨_, rfl⟩, out.int rh b⟩
          | _ => exact False.elim b
        | _ => cases d <;> exact False.elim b
  | scount =>
    cases ds with
    | nil => cases d <;> exact False.elim b
    | cons y t =>
      cases t with
      | cons _ _ => cases y <;> cases d <;> exact False.elim b
      | nil =>
        obtain ⟨vy, rfl, ry⟩ := rel1 rds
        cases y with
        | str z =>
          cases d with
          | str a =>
            simp only [mthD] at b
            cases relStr rd; cases relStr ry
            exact mt_count pins s σ H _ _ v us Q I rx rs ⟨mkS a, mkS z, rfl, rfl, out.int rh b⟩
          | _ => exact False.elim b
        | _ => cases d <;> exact False.elim b
  | dget =>
    cases ds with
    | nil => cases d <;> exact False.elim b
    | cons k t =>
      cases t with
      | nil => cases d <;> exact False.elim b
      | cons z t =>
        cases t with
        | cons _ _ => cases d <;> exact False.elim b
        | nil =>
          obtain ⟨vk, vz, rfl, rk, rz⟩ := rel2 rds
          cases d with
          | ref a =>
            cases ho : h a with
            | none => simp only [mthD, ho] at b
            | some o =>
              cases o with
              | dct kvs =>
                simp only [mthD, ho] at b
                obtain ⟨ne, ok, lk, b⟩ := b
                cases relRef rd
                obtain ⟨w, g, rw'⟩ : ∃ o, DGet H a vk o ∧ RelD X.K H ((getD? k kvs).getD z) (o.getD vz) := by
                  cases e1 : getD? k kvs with
                  | some y =>
                    obtain ⟨v', g, r'⟩ := dget_ok rh ho ok rk e1
                    exact ⟨some v', g, r'⟩
                  | none => exact ⟨none, dget_no rh ho ne ok lk rk e1, rz⟩
                obtain rfl : v = Value.ref a := rx
                cases rs with
                | cons r1 rs =>
                  cases rs with
                  | cons r2 rs =>
                    cases rs
                    exact d_get2 (by omega) I g r1 r2 fun w' s4 I4 rw2 => ⟨_, H, I4, rw2, out.at rh b rw'⟩
              | _ => simp only [mthD, ho] at b
          | _ => exact False.elim b

/-! ### isinstance, of built-in types -/
def tyNm : Ty → String
  | .int => "int"
  | .bool => "bool"
  | .str => "str"
  | .tuple => "tuple"
  | .list => "list"
  | .own _ => "object"
def bltTy : Ty → Bool
  | .own _ => false
  | _ => true
def rIs (K : PySem.W.Frag) (t : Ty) : List V → Hp → VK → Prop := fun xs H Q => ∃ x d h Qd, xs = [x, .ty (tyNm t)] ∧ RelD K H d x ∧ RelH K H h ∧ isiD t d h Qd ∧ ∀ b, Qd b → Q (.bl b) H
theorem kit_dec {a b : String} {r : Bool} (h : kitB a b = some r) {K : PySem.W.Frag} : PySem.W.kitOne K (.type a) (.type b) = some r := kit_ty h
theorem isi_any (t : Ty) (ht : bltTy t = true) : CallR X (.builtin "isinstance") (fun xs H Q => ∃ x d h Qd, xs = [x, .ty (tyNm t)] ∧ RelD X.K H d x ∧ RelH X.K H h ∧ isData d h = true ∧ isiD t d h Qd ∧ ∀ b, Qd b → Q (.bl b) H) := by
  intro pins s σ H xs us Q I rs hq
  obtain ⟨x, d, h, Qd, rfl, rd, rh, dt, b, out⟩ := hq
  refine call_isi pins s σ H _ us Q I rs ?_
  have go : ∀ (a : String) (r : Bool), TyX X.K H x (.type a) → kitB a (tyNm t) = some r → Qd r → rIsi X.K [x, .ty (tyNm t)] H Q := fun a r ty k q =>
    ⟨x, .ty (tyNm t), .type a, .type (tyNm t), r, rfl, .ty _, ty, kit_ty k, out _ q⟩
  cases d with
  | non =>
    cases relNon rd
    cases t with
    | own _ => cases ht
    | _ => exact go "NoneType" false (.base .non) (by decide +kernel) b
  | bl c =>
    cases relBl rd
    cases t with
    | own _ => cases ht
    | int => exact go "bool" true (.base (.bl c)) (by decide +kernel) b
    | bool => exact go "bool" true (.base (.bl c)) (by decide +kernel) b
    | _ => exact go "bool" false (.base (.bl c)) (by decide +kernel) b
  | int i =>
    cases relInt rd
    cases t with
    | own _ => cases ht
    | int => exact go "int" true (.base (.int i)) (by decide +kernel) b
    | _ => exact go "int" false (.base (.int i)) (by decide +kernel) b
  | str z =>
    cases relStr rd
    cases t with
    | own _ => cases ht
    | str => exact go "str" true (.base (.str _)) (by decide +kernel) b
    | _ => exact go "str" false (.base (.str _)) (by decide +kernel) b
  | tup es =>
    obtain ⟨a, vs, rfl, hv, _⟩ := relTup rd
    cases t with
    | own _ => cases ht
    | tuple => exact go "tuple" true (.base (.tup hv)) (by decide +kernel) b
    | _ => exact go "tuple" false (.base (.tup hv)) (by decide +kernel) b
  | rol es =>
    simp only [RelD] at rd
    obtain ⟨a, vs, rfl, hz, _⟩ := rd
    have ty : TyX X.K H (.ref a) (.type "list") := by
      rcases hz with ⟨o, z⟩ | ⟨o, its, n, z, zc, _⟩
      · exact .base (.frz z)
      · exact .kList z zc
    cases t with
    | own _ => cases ht
    | list => exact go "list" true ty (by decide +kernel) b
    | _ => exact go "list" false ty (by decide +kernel) b
  | ref a =>
    cases ho : h a with
    | none => simp only [isData, ho] at dt; cases dt
    | some o =>
      cases relRef rd
      cases o with
      | lst es =>
        obtain ⟨vs, hv, _⟩ := rh a _ ho
        cases t with
        | own _ => cases ht
        | list =>
          simp only [isiD, ho] at b
          exact go "list" true (.base (.lst hv)) (by decide +kernel) (by simpa using b)
        | _ =>
          simp only [isiD, ho] at b
          exact go "list" false (.base (.lst hv)) (by decide +kernel) (by simpa using b)
      | dct kvs =>
        have ty : TyX X.K H (.ref a) (.type "dict") := by
          rcases rh a _ ho with ⟨ps, hp, _⟩ | ⟨ps, hp, _⟩
          · exact .base (.dK hp)
          · exact .base (.dT hp)
        cases t with
        | own _ => cases ht
        | _ =>
          simp only [isiD, ho] at b
          exact go "dict" false ty (by decide +kernel) b
      | _ => simp only [isData, ho] at dt; cases dt
end
end Lit
/-! Is this text that syntax? A look by computation. -/
namespace Lit
open PySem PySem.Spec PyProof.Rows L2

structure Ck where
  N : List Str
  fns : List Str
  gis : List (Str × Int)
  gss : List (Str × List Nat)
  blt : List Str

def okHead : Expr → Bool
  | .Starred .. => false
  | .Set .. => false
  | .SetComp .. => false
  | .DictComp .. => false
  | .Slice .. => false
  | _ => true
def isComp : Expr → Bool
  | .ListComp .. => true
  | _ => false
/-- a call of a name without arguments -/
def call0 : Expr → Bool
  | .Call (.Name _ _) [] [] _ => true
  | _ => false
/-- its truth is its value's -/
def plainT : Expr → Bool
  | .UnaryOp .Not _ _ => false
  | .BoolOp .. => false
  | .IfExp .. => false
  | .Compare .. => false
  | _ => true
def visB (sc : Scope) (x : Str) : Bool := match sc.names.lookup x with
  | some .local => true
  | some .cell => true
  | some .free => true
  | _ => false
def glB (sc : Scope) (x : Str) : Bool := match sc.names.lookup x with
  | some .globalImplicit => true
  | _ => false
/-- stored here: bo is a block's own scope -/
def stB (sc : Scope) (bo : Option Scope) (x : Str) : Bool := match (bo.getD sc).names.lookup x with
  | some .local => true
  | some .cell => true
  | _ => false
def noDbg (x : Str) : Bool := !(x == ("__debug__" : Str)) && !(x == ("__classdict__" : Str)) && !(x == ("__name__" : Str))
def opB : BOp → Operator → Bool
  | .add, .Add => true
  | .sub, .Sub => true
  | .mul, .Mult => true
  | .fdiv, .FloorDiv => true
  | .mod, .Mod => true
  | .pow, .Pow => true
  | _, _ => false
def coB : COp → CmpOp → Bool
  | .eq, .Eq => true
  | .ne, .NotEq => true
  | .lt, .Lt => true
  | .le, .LtE => true
  | .gt, .Gt => true
  | .ge, .GtE => true
  | .isin, .In => true
  | .notin, .NotIn => true
  | .is, .Is => true
  | .isnot, .IsNot => true
  | _, _ => false
def b1Nm : B1 → Str
  | .len => "len"
  | .sum => "sum"
  | .all => "all"
  | .any => "any"
  | .maxL => "max"
  | .minL => "min"
  | .int => "int"
  | .str => "str"
  | .repr => "repr"
  | .list => "list"
  | .tuple => "tuple"
def b2Nm : B2 → Str
  | .max => "max"
  | .min => "min"
def tyNmS : Ty → Str
  | .int => "int"
  | .bool => "bool"
  | .str => "str"
  | .tuple => "tuple"
  | .list => "list"
  | .own c => c
def bltOk (c : Ck) (sc : Scope) (x : Str) : Bool := glB sc x && noDbg x && c.blt.contains x
mutual
def chkTg (c : Ck) (sc : Scope) (bo : Option Scope) : Tg → Expr → Bool
  | .nm i, .Name x _ => decide (c.N[i]? = some x) && stB sc bo x
  | .tup l, .Tuple es _ _ => chkTgs c sc bo l es
  | _, _ => false
def chkTgs (c : Ck) (sc : Scope) (bo : Option Scope) : Tg → List Expr → Bool
  | .nil, [] => true
  | .cons t l, e :: es => okHead e && chkTg c sc bo t e && chkTgs c sc bo l es
  | _, _ => false
end
def tgSlots : Tg → List Nat
  | .nm i => [i]
  | .tup l => tgSlots l
  | .nil => []
  | .cons t l => tgSlots t ++ tgSlots l
/-- as a test: its syntax is told, or its truth is its value's -/
def testOk (e : E) (x : Expr) : Bool := match e with
  | .land _ => true
  | .lor _ => true
  | .lnot _ => true
  | .cmp .. => true
  | .chain .. => true
  | _ => plainT x
def isNil : E → Bool
  | .nil => true
  | _ => false
mutual
def chkE (c : Ck) (sc : Scope) : E → Expr → Bool
  | .var i, .Name x _ => decide (c.N[i]? = some x) && visB sc x && noDbg x
  | .int i, .Constant (.int j) _ _ => decide (i = j)
  | .bl i, .Constant (.bool j) _ _ => decide (i = j)
  | .str i, .Constant (.str j) _ _ => decide (mkS i = j)
  | .non, .Constant .none _ _ => true
  | .gint y i, .Name x _ => decide (y = x) && glB sc x && noDbg x && decide ((y, i) ∈ c.gis)
  | .gstr y i, .Name x _ => decide (y = x) && glB sc x && noDbg x && decide ((y, i) ∈ c.gss)
  | .op o a b, .BinOp l o' r _ => opB o o' && (okHead l && chkE c sc a l) && (okHead r && chkE c sc b r)
  | .neg a, .UnaryOp .USub v _ => (okHead v && chkE c sc a v)
  | .cmp o a b, .Compare l [o'] [r] _ => coB o o' && (okHead l && chkE c sc a l) && (okHead r && chkE c sc b r)
  | .chain o o2 a b d, .Compare l [o', o2'] [m, r] _ => coB o o' && coB o2 o2' && (okHead l && chkE c sc a l) && (okHead m && chkE c sc b m) && (okHead r && chkE c sc d r)
  | .land es, .BoolOp .And vs _ => chkB c sc es vs && decide (2 ≤ vs.length)
  | .lor es, .BoolOp .Or vs _ => chkB c sc es vs && decide (2 ≤ vs.length)
  | .lnot a, .UnaryOp .Not v _ => (okHead v && testOk a v && chkE c sc a v)
  | .ife t a b, .IfExp x y z _ => (okHead x && testOk t x && chkE c sc t x) && (okHead y && chkE c sc a y) && (okHead z && chkE c sc b z)
  | .tup es, .Tuple vs _ _ => chkA c sc es vs
  | .lst es, .List vs _ => chkA c sc es vs
  | .dic es, .Dict ks vs _ => chkD c sc es ks vs && decide (ks.length ≤ 15)
  | .ix a i, .Subscript o s _ => (okHead o && chkE c sc a o) && (okHead s && chkE c sc i s)
  | .sl a lo hi, .Subscript o (.Slice l h none _) _ => (okHead o && chkE c sc a o) && (match l with
    | none => isNil lo
    | some x => okHead x && chkE c sc lo x) && (match h with
    | none => isNil hi
    | some x => okHead x && chkE c sc hi x)
  | .rev a, .Subscript o (.Slice none none (some (.UnaryOp .USub (.Constant (.int 1) _ _) _)) _) _ => (okHead o && chkE c sc a o)
  | .b1 f a, .Call (.Name n _) [x] [] _ => decide (n = b1Nm f) && bltOk c sc n && (okHead x && chkE c sc a x)
  | .b2 f a b, .Call (.Name n _) [x, y] [] _ => decide (n = b2Nm f) && bltOk c sc n && (okHead x && chkE c sc a x) && (okHead y && chkE c sc b y)
  | .isi a t, .Call (.Name n _) [x, .Name tn _] [] _ => decide (n = "isinstance") && bltOk c sc n && (okHead x && chkE c sc a x) && decide (tn = tyNmS t) && bltOk c sc tn && bltTy t
  | .mth m o es, .Call (.Attribute r n ap) args [] cp => decide (n = mthNm m) && (!(call0 r) && decide (m ≠ .lindex)) && (ap.endLine == cp.line) && (okHead r && chkE c sc o r) && chkA c sc es args && decide (args.length < 20)
  | .call i es, .Call (.Name f _) args [] _ => decide (c.fns[i]? = some f) && glB sc f && noDbg f && !args.isEmpty && chkA c sc es args
  | .comp it tg vs cond elt, .ListComp e [⟨t, iter, ifs, 0⟩] scope _ =>
      chkI c sc it t iter && blkC c.N sc scope (vs.map fun i => (c.N.getD i "", i)) && chkTg c (relS scope sc) (some scope) tg t && (tgSlots tg).all (fun i => vs.contains i) && okHead iter &&
      chkC c (relS scope sc) cond ifs && (okHead e && chkE c (relS scope sc) elt e)
  | _, _ => false
def chkA (c : Ck) (sc : Scope) : E → List Expr → Bool
  | .nil, [] => true
  | .cons a r, x :: xs => (okHead x && chkE c sc a x) && chkA c sc r xs
  | _, _ => false
def chkB (c : Ck) (sc : Scope) : E → List Expr → Bool
  | .nil, [] => true
  | .cons a r, x :: xs => (okHead x && testOk a x && chkE c sc a x) && chkB c sc r xs
  | _, _ => false
def chkD (c : Ck) (sc : Scope) : E → List (Option Expr) → List Expr → Bool
  | .nil, [], [] => true
  | .cons k (.cons v r), some x :: ks, y :: vs => (okHead x && chkE c sc k x) && (okHead y && chkE c sc v y) && chkD c sc r ks vs
  | _, _, _ => false
def chkC (c : Ck) (sc : Scope) : E → List Expr → Bool
  | .nil, [] => true
  | .cons a .nil, [x] => (okHead x && testOk a x && chkE c sc a x)
  | _, _ => false
def chkI (c : Ck) (sc : Scope) : E → Expr → Expr → Bool
  | .itL e, _, x => (okHead x && chkE c sc e x)
  | .itR1 e, _, .Call (.Name n _) [x] [] _ => decide (n = "range") && bltOk c sc n && (okHead x && chkE c sc e x)
  | .itR2 a b, _, .Call (.Name n _) [x, y] [] _ => decide (n = "range") && bltOk c sc n && (okHead x && chkE c sc a x) && (okHead y && chkE c sc b y)
  | .itEL e, .Tuple _ _ _, .Call (.Name n _) [x] [] _ => decide (n = "enumerate") && bltOk c sc n && (okHead x && chkE c sc e x)
  | _, _, _ => false
end
end Lit
/-! Readings of told values, as readings of the layer. -/
namespace Lit
open PySem PySem.Spec PyProof.Rows L2

def RelX (K : PySem.W.Frag) (H : Hp) (x : Exc) (cls : Value) (dd : Option Addr) : Prop :=
  cls = .ref (He.ga K x.cls) ∧ ((dd = none ∧ x.fs = []) ∨ ∃ a vs, dd = some a ∧ H a = some (.xd vs) ∧ RelF K H x.fs vs)
def OutX (K : PySem.W.Frag) (W : WX) (σ : L2.St) (H : Hp) (h : PH) (xq : XQ) : Prop := ∀ x h' cls dd H', xq x h' → RelX K H' x cls dd → RelH K H' h' → Frm H h H' h' → W cls dd σ H'
def OutT (K : PySem.W.Frag) (H : Hp) (h : PH) (Qd : Bool → PH → Prop) (Q : Bool → Hp → Prop) : Prop := ∀ b h' H', Qd b h' → RelH K H' h' → Frm H h H' h' → Q b H'
def OutA (K : PySem.W.Frag) (H : Hp) (h : PH) (Qd : List D → PH → Prop) (Q : List V → Hp → Prop) : Prop := ∀ ds h' vs H', Qd ds h' → RelDs K H' ds vs → RelH K H' h' → Frm H h H' h' → Q vs H'
def liftE (K : PySem.W.Frag) (W : WX) (r : RE) : TE := fun σ H Q => ∃ ρ h xq Qd, RelS K H ρ σ ∧ RelH K H h ∧ r ρ h xq Qd ∧ Out K H h Qd Q ∧ OutX K W σ H h xq
def liftT (K : PySem.W.Frag) (W : WX) (r : RT) : TT := fun σ H Q => ∃ ρ h xq Qd, RelS K H ρ σ ∧ RelH K H h ∧ r ρ h xq Qd ∧ OutT K H h Qd Q ∧ OutX K W σ H h xq
def liftA (K : PySem.W.Frag) (W : WX) (r : RA) : TA := fun σ H Q => ∃ ρ h xq Qd, RelS K H ρ σ ∧ RelH K H h ∧ r ρ h xq Qd ∧ OutA K H h Qd Q ∧ OutX K W σ H h xq

/-- a walk over told items -/
def WalkD (K : PySem.W.Frag) (H1 : Hp) (h1 : PH) (J : It) (items : List D) (stay : PH → Prop) : Prop :=
  stay h1 ∧ ∃ (G : Hp → Prop) (Y : Nat → Hp → V → Hp → Prop), Walk J items.length G Y ∧ (∀ H h, Frm H1 h1 H h → RelH K H h → stay h → G H) ∧
    ∀ i H h x H', i < items.length → Frm H1 h1 H h → RelH K H h → stay h → Y i H x H' → ∃ d, items[i]? = some d ∧ RelD K H' d x ∧ RelH K H' h ∧ Frm H h H' h
def liftI (K : PySem.W.Frag) (W : WX) (r : RI) : TI := fun σ H R => ∃ ρ h xq Ri, RelS K H ρ σ ∧ RelH K H h ∧ r ρ h xq Ri ∧
  (∀ items stay h' J H', Ri items stay h' → WalkD K H' h' J items stay → RelH K H' h' → Frm H h H' h' → R J H') ∧ OutX K W σ H h xq

section
variable {K : PySem.W.Frag} {W : WX} {σ : L2.St} {H H1 : Hp} {h h1 : PH} {xq : XQ}
theorem Out.step {Qd : D → PH → Prop} {Q : VK} (o : Out K H h Qd Q) (f : Frm H h H1 h1) : Out K H1 h1 Qd Q := fun r h' v H' q a b c => o r h' v H' q a b (f.trans c)
theorem OutX.step (o : OutX K W σ H h xq) (f : Frm H h H1 h1) : OutX K W σ H1 h1 xq := fun x h' cls dd H' q a b c => o x h' cls dd H' q a b (f.trans c)
theorem OutT.step {Qd : Bool → PH → Prop} {Q : Bool → Hp → Prop} (o : OutT K H h Qd Q) (f : Frm H h H1 h1) : OutT K H1 h1 Qd Q := fun r h' H' q b c => o r h' H' q b (f.trans c)
theorem OutA.step {Qd : List D → PH → Prop} {Q : List V → Hp → Prop} (o : OutA K H h Qd Q) (f : Frm H h H1 h1) : OutA K H1 h1 Qd Q := fun r h' v H' q a b c => o r h' v H' q a b (f.trans c)
theorem OutX.none : OutX K W σ H h noX := fun _ _ _ _ _ q => q.elim

/-- a reading, then what is done with its value -/
theorem liftE.bind {ra : RE} {ρ : Rho} {Q : VK} {P : D → PH → Prop} (rs : RelS K H ρ σ) (rh : RelH K H h) (q : ra ρ h xq P) (ox : OutX K W σ H h xq)
    (k : ∀ d h1 v H1, P d h1 → RelD K H1 d v → RelH K H1 h1 → Frm H h H1 h1 → Keeps H H1 → RelS K H1 ρ σ → OutX K W σ H1 h1 xq → Q v H1) : liftE K W ra σ H Q :=
  ⟨ρ, h, xq, P, rs, rh, q, fun d h1 v H1 p a b c => k d h1 v H1 p a b c (c.keeps rh) (rs.keep (c.keeps rh)) (ox.step c), ox⟩
theorem liftA.bind {ra : RA} {ρ : Rho} {Q : List V → Hp → Prop} {P : List D → PH → Prop} (rs : RelS K H ρ σ) (rh : RelH K H h) (q : ra ρ h xq P) (ox : OutX K W σ H h xq)
    (k : ∀ d h1 v H1, P d h1 → RelDs K H1 d v → RelH K H1 h1 → Frm H h H1 h1 → Keeps H H1 → RelS K H1 ρ σ → OutX K W σ H1 h1 xq → Q v H1) : liftA K W ra σ H Q :=
  ⟨ρ, h, xq, P, rs, rh, q, fun d h1 v H1 p a b c => k d h1 v H1 p a b c (c.keeps rh) (rs.keep (c.keeps rh)) (ox.step c), ox⟩
theorem liftT.bind {ra : RT} {ρ : Rho} {Q : Bool → Hp → Prop} {P : Bool → PH → Prop} (rs : RelS K H ρ σ) (rh : RelH K H h) (q : ra ρ h xq P) (ox : OutX K W σ H h xq)
    (k : ∀ b h1 H1, P b h1 → RelH K H1 h1 → Frm H h H1 h1 → Keeps H H1 → RelS K H1 ρ σ → OutX K W σ H1 h1 xq → Q b H1) : liftT K W ra σ H Q :=
  ⟨ρ, h, xq, P, rs, rh, q, fun d h1 H1 p b c => k d h1 H1 p b c (c.keeps rh) (rs.keep (c.keeps rh)) (ox.step c), ox⟩
theorem liftI.bind {ra : RI} {ρ : Rho} {R : It → Hp → Prop} {P : List D → (PH → Prop) → PH → Prop} (rs : RelS K H ρ σ) (rh : RelH K H h) (q : ra ρ h xq P) (ox : OutX K W σ H h xq)
    (k : ∀ items stay h1 J H1, P items stay h1 → WalkD K H1 h1 J items stay → RelH K H1 h1 → Frm H h H1 h1 → Keeps H H1 → RelS K H1 ρ σ → OutX K W σ H1 h1 xq → R J H1) : liftI K W ra σ H R :=
  ⟨ρ, h, xq, P, rs, rh, q, fun d st h1 J H1 p a b c => k d st h1 J H1 p a b c (c.keeps rh) (rs.keep (c.keeps rh)) (ox.step c), ox⟩
end
theorem _root_.L2.PE.lift {X : Cx} {e : Expr} {t t' : TE} (p : PE X e t) (h : ∀ σ H Q, t' σ H Q → t σ H Q) : PE X e t' := ⟨fun pins s σ H Q I q => p.run pins s σ H Q I (h σ H Q q)⟩
theorem _root_.L2.PT.lift {X : Cx} {e : Expr} {t t' : TT} (p : PT X e t) (h : ∀ σ H Q, t' σ H Q → t σ H Q) : PT X e t' := ⟨fun pins s σ H Q I q => p.run pins s σ H Q I (h σ H Q q)⟩
theorem _root_.L2.PW.lift {X : Cx} {e : Expr} {t t' : TT} (p : PW X e t) (h : ∀ σ H Q, t' σ H Q → t σ H Q) : PW X e t' := ⟨fun wh pins s σ H Q I q => p.run wh pins s σ H Q I (h σ H Q q)⟩
theorem _root_.L2.PA.lift {X : Cx} {e : List Expr} {t t' : TA} (p : PA X e t) (h : ∀ σ H Q, t' σ H Q → t σ H Q) : PA X e t' := ⟨fun pos pins s σ H Q I q => p.run pos pins s σ H Q I (h σ H Q q)⟩
theorem _root_.L2.PI.lift {X : Cx} {tg e : Expr} {t t' : TI} (p : PI X tg e t) (h : ∀ σ H Q, t' σ H Q → t σ H Q) : PI X tg e t' := ⟨fun pins s σ H Q I q => p.run pins s σ H Q I (h σ H Q q)⟩
theorem _root_.L2.PSs.lift {X : Cx} {e : List Stmt} {t t' : TS} (p : PSs X e t) (h : ∀ D σ H, t' D σ H → t D σ H) : PSs X e t' := ⟨fun pins s σ H D I q => p.run pins s σ H D I (h D σ H q)⟩
theorem _root_.L2.PS.lift {X : Cx} {e : Stmt} {t t' : TS} (p : PS X e t) (h : ∀ D σ H, t' D σ H → t D σ H) : PS X e t' := ⟨fun pins s σ H D I q => p.run pins s σ H D I (h D σ H q)⟩

/-! ### what a def keeps, with the guards told -/
structure FnG (P : Program) (w : World) (K : PySem.W.Frag) (mg : Str → Option Value) (base : Heap) (k : Nat) (f : Addr) (fd : FuncData) (ps : List Str) (sp : Sp) : Prop where
  len : ∀ vs H Q E, sp vs H Q E → vs.length = ps.length
  go : ∀ (A : Around) (outer : List Env) (s : Shared) (H : Hp) (args : Args) (us : List Value) (vs : List V) (Q : VK) (E : XK), A.guards = some [] → Room k A → Env0 P w K mg base A outer s H → BindsTo s fd args (ps.zip us) → Vals vs us →
    sp vs H Q E → codeAny (model P w) A (.call (.ref f) args) (CR (L2.CX P w) outer P w H s Q E) s
def liftSp (K : PySem.W.Frag) (sp : DSp) : Sp := fun vs H Q E => ∃ ds h X0 Q0, RelDs K H ds vs ∧ RelH K H h ∧ sp ds h X0 Q0 ∧ Out K H h Q0 Q ∧
  ∀ x h' cls dd H', X0 x h' → RelX K H' x cls dd → RelH K H' h' → Frm H h H' h' → E cls dd H'

/-- the promises that a text leans on -/
structure Sig where
  fns : List (Str × DSp)
  gis : List (Str × Int)
  gss : List (Str × List Nat)
  blt : List Str
def Sig.sps (G : Sig) : List DSp := G.fns.map (·.2)
def Sig.ck (G : Sig) (N : List Str) : Ck := ⟨N, G.fns.map (·.1), G.gis, G.gss, G.blt⟩
structure Ctx (X : Cx) (W : WX) (k : Nat) (G : Sig) : Prop where
  calm : X.calm = true
  nd : X.N.Nodup
  tk : Takes X W
  gd : X.A.guards = some []
  room : Room k X.A
  fns : ∀ (i : Nat) (f : Str) (sp : DSp), G.fns[i]? = some (f, sp) → ∃ fa fd ps j, j ≤ k ∧ X.mg f = some (.ref fa) ∧ PySem.W.keepIn X.K (.ref fa) = true ∧
    FnG X.prog X.w X.K X.mg X.base j fa fd ps (liftSp X.K sp) ∧ Binds X.K fd ps []
  blt : ∀ x ∈ G.blt, X.mg x = none
  gis : ∀ x i, (x, i) ∈ G.gis → ∃ t, X.mg x = some (.int i t)
  gss : ∀ x s, (x, s) ∈ G.gss → ∃ t, X.mg x = some (.str (mkS s) t)
theorem Ctx.blk {X : Cx} {W : WX} {k : Nat} {G : Sig} (c : Ctx X W k G) (s : Shared) (H : Hp) (scope : Scope) (ce : Env) (fp : List Addr) : Ctx (X.blk s H scope ce fp) (fun _ _ _ _ => False) k G :=
  ⟨c.calm, c.nd, takes0, c.gd, c.room, c.fns, c.blt, c.gis, c.gss⟩

/-! ### the call of a def of the text -/
section
variable {X : Cx} {W : WX} {k : Nat} {G : Sig}
theorem run_def {j : Nat} {fa : Addr} {fd : FuncData} {ps : List Str} {sp : Sp} {pins : List (Addr × Obj)} {σ : L2.St} {H : Hp} {s : Shared} {Q : VK} {us : List Value} {vs : List V} (c : Ctx X W k G) (hj : j ≤ k)
    (F : FnG X.prog X.w X.K X.mg X.base j fa fd ps sp) (hb : Binds X.K fd ps []) (I : Inv X pins σ H s) (r : Vals vs us) (h : sp vs H Q (WE W σ)) :
    wpAny (model X.prog X.w) X.A (call (.ref fa) us) (EP X pins σ Q) X.xe s := by
  have nus : us.length = ps.length := r.length.symm.trans (F.len _ _ _ _ h)
  have bd : BindsTo s fd ⟨us, []⟩ (ps.zip us) := by
    have z := hb s us I.kIn (by rw [List.append_nil]; exact nus)
    rwa [List.append_nil] at z
  have run := F.go X.A X.stack s H ⟨us, []⟩ us vs Q (WE W σ) c.gd (c.room.mono hj) I.env0 bd r h
  refine wpAny_call (codeAny_mono run ?_)
  intro res s2 e
  match res, e with
  | .error x, e => exact passAt c.tk σ pins H s x s2 I e
  | .ok (.ret v), e => exact I.after e
theorem pe_def {i : Nat} {f : Str} {p pos : Pos} {e : Expr} {es : List Expr} {ra : RA} (c : Ctx X W k G) (hi : (G.fns.map (·.1))[i]? = some f) (hg : Gl X f) (ha : PA X (e :: es) (liftA X.K W ra))
    (hd : (f == ("__debug__" : Str)) = false) (he : starEach (e :: es) X.env = (false, eval e X.env) :: starEach es X.env) (hp : (backTo pos (starEach es X.env)).any (·.1) = false) :
    PE X (.Call (.Name f p) (e :: es) [] pos) (liftE X.K W fun ρ h xq Q => ra ρ h xq fun ds h1 => spAt G.sps i ds h1 xq Q) := by
  rw [List.getElem?_map] at hi
  cases ei : G.fns[i]? with
  | none => rw [ei] at hi; cases hi
  | some q =>
    obtain ⟨f', sp⟩ := q
    rw [ei] at hi
    cases hi
    obtain ⟨fa, fd, ps, j, hj, hm, hk, F, hb⟩ := c.fns i _ sp ei
    have es' : G.sps[i]? = some sp := by unfold Sig.sps; rw [List.getElem?_map, ei]; rfl
    constructor
    intro pins s σ H Q I ⟨ρ, h, xq, Qd, rs, rh, q, out, ox⟩
    refine wpAny_Call_Name_kw (ld_glob I hg hm ?_ hd)
    refine PySem.W.callWith_K (h₀ := X.base) I.ok.mod.kin hk (thn (ha.run pos pins s σ H (fun vs H1 => liftSp X.K sp vs H1 Q (WE W σ)) I ?_) fun us s1 ⟨vs, H1, I1, r, q1⟩ => ⟨I1.kIn, run_def c hj F hb I1 r q1⟩) he hp
    refine liftA.bind rs rh q ox fun ds h1 vs H1 p1 r1 rh1 f1 _ _ ox1 => ?_
    have p2 : spAt G.sps i ds h1 xq Qd := p1
    simp only [spAt, es'] at p2
    obtain ⟨X0, Q0, p3, kx, kq⟩ := p2
    exact ⟨ds, h1, X0, Q0, r1, rh1, p3, fun r' h' v H' q' a b cc => out r' h' v H' (kq _ _ q') a b (f1.trans cc), fun x h' cls dd H' q' a b cc => ox1 x h' cls dd H' (kx _ _ q') a b cc⟩
end
end Lit
namespace Lit
open PySem PySem.Spec PyProof.Rows L2

/-! ### side conditions of the layer's rules -/
theorem star_ok {x : Expr} (h : okHead x = true) (xs : List Expr) (env : Env) : starEach (x :: xs) env = (false, eval x env) :: starEach xs env := by
  cases x <;> first | rfl | cases h
theorem mark_ok {x : Expr} (h : okHead x = true) (op : CmpOp) : behindInMarks op x = false := by
  cases x <;> first | rfl | cases h
theorem plainIx_ok {x : Expr} (h : okHead x = true) : PlainIx x := by
  intro o i
  cases x <;> first | rfl | cases h
theorem folded_ok {x : Expr} (h : okHead x = true) (env : Env) : ∀ v, foldedSetIterable x env v = pure v := by
  intro v
  cases x <;> first | rfl | cases h
theorem isTrue_ok {x : Expr} (h : plainT x = true) (env : Env) : ∀ whole, isTrue x env whole = (do let v ← whole; standAt x.pos; holding [v] (truthy v)) := by
  intro whole
  cases x with
  | UnaryOp op a p => cases op <;> first | rfl | cases h
  | BoolOp _ _ _ => cases h
  | IfExp _ _ _ _ => cases h
  | Compare _ _ _ _ => cases h
  | _ => rfl
theorem base_ok {x : Expr} (h : call0 x = false) (n : Str) (env : Env) (t : Sem Value) : attributeBase x n env t = t := by
  unfold attributeBase
  split
  · cases h
  · rfl
theorem bang {b : Bool} (h : (!b) = true) : b = false := by cases b <;> first | rfl | cases h
theorem an {a b : Bool} (h : (a && b) = true) : a = true ∧ b = true := Bool.and_eq_true_iff.mp h
theorem vis_ok {sc : Scope} {x : Str} (h : visB sc x = true) : Vis sc x := by
  unfold visB at h
  unfold Vis
  split at h
  · rename_i e; exact .inl e
  · rename_i e; exact .inr (.inl e)
  · rename_i e; exact .inr (.inr e)
  · cases h
theorem gl_ok {X : Cx} {x : Str} (h : glB X.env.scope x = true) : Gl X x := by
  unfold glB at h
  split at h
  · rename_i e; exact e
  · cases h
theorem noDbg_ok {x : Str} (h : noDbg x = true) : (x == ("__debug__" : Str)) = false ∧ (x == ("__classdict__" : Str)) = false ∧ x ≠ "__name__" := by
  unfold noDbg at h
  obtain ⟨h1, h2⟩ := an h
  obtain ⟨h3, h4⟩ := an h1
  refine ⟨bang h3, bang h4, fun e => ?_⟩
  have z := bang h2
  rw [e] at z
  exact absurd z (by decide +kernel)
theorem op_ok {o : BOp} {o' : Operator} (h : opB o o' = true) : o' = toOp o := by
  cases o <;> cases o' <;> first | rfl | cases h
theorem co_ok {o : COp} {o' : CmpOp} (h : coB o o' = true) : o' = toC o := by
  cases o <;> cases o' <;> first | rfl | cases h
section
variable {c : Ck} {sc : Scope}
theorem chkA_star : ∀ {es : E} {xs : List Expr}, chkA c sc es xs = true → ∀ (pos : Pos) (env : Env), (backTo pos (starEach xs env)).any (·.1) = false
  | .nil, [], _, _, _ => rfl
  | .cons a r, x :: xs, h, pos, env => by
    simp only [chkA] at h
    obtain ⟨h1, h2⟩ := an h
    obtain ⟨h3, _⟩ := an h1
    rw [star_ok h3]
    have ih := chkA_star h2 pos env
    show ((backTo pos ((false, eval x env) :: starEach xs env)).any (·.1)) = false
    simp only [backTo, List.map_cons, List.any_cons] at ih ⊢
    rw [ih]
    rfl
  | .cons _ _, [], h, _, _ => by simp only [chkA] at h; cases h
  | .nil, _ :: _, h, _, _ => by simp only [chkA] at h; cases h
theorem chkA_head {a r : E} {x : Expr} {xs : List Expr} (h : chkA c sc (.cons a r) (x :: xs) = true) : okHead x = true ∧ chkE c sc a x = true ∧ chkA c sc r xs = true := by
  simp only [chkA] at h
  obtain ⟨h1, h2⟩ := an h
  obtain ⟨h3, h4⟩ := an h1
  exact ⟨h3, h4, h2⟩
theorem stars_all : ∀ {es : E} {xs : List Expr}, chkA c sc es xs = true → ∀ (pos : Pos) (env : Env), (backTo pos (starEach xs env)).all (fun x => !x.1) = true := fun {es xs} h pos env => by
  have z := chkA_star h pos env
  rw [List.all_eq_true]
  intro y hy
  rw [List.any_eq_false] at z
  have := z y hy
  simpa using this
theorem chkA_nil {es : E} (h : chkA c sc es [] = true) : es = .nil := by
  cases es <;> first | rfl | (simp only [chkA] at h; cases h)
theorem chkA_ncons {es : E} {x : Expr} {xs : List Expr} (h : chkA c sc es (x :: xs) = true) : ∃ a r, es = .cons a r := by
  cases es <;> first | exact ⟨_, _, rfl⟩ | (simp only [chkA] at h; cases h)
end
section
variable {X : Cx} {W : WX} {k : Nat} {G : Sig}
theorem Ctx.u64 (c : Ctx X W k G) : X.A.units + 64 < cLine := c.room.units
theorem bltOk_ok {N : List Str} (c : Ctx X W k G) {x : Str} (h : bltOk (G.ck N) X.env.scope x = true) : Gl X x ∧ X.mg x = none ∧ (x == ("__debug__" : Str)) = false ∧ x ≠ "__name__" := by
  unfold bltOk at h
  obtain ⟨h1, h2⟩ := an h
  obtain ⟨h3, h4⟩ := an h1
  obtain ⟨d1, _, d3⟩ := noDbg_ok h4
  exact ⟨gl_ok h3, c.blt x (by simpa [Sig.ck] using h2), d1, d3⟩

/-! ### expressions by their parts -/
theorem s_op {o : BOp} {a b : Expr} {pos : Pos} {ra rb : RE} (ha : PE X a (liftE X.K W ra)) (hb : PE X b (liftE X.K W rb)) :
    PE X (.BinOp a (toOp o) b pos) (liftE X.K W fun ρ h xq Q => ra ρ h xq fun x h1 => rb ρ h1 xq fun y h2 => binD o x y h2 Q) := by
  refine (pe_op (op_bin o) ha hb).lift fun σ H Q ⟨ρ, h, xq, Qd, rs, rh, q, out, ox⟩ => ?_
  refine liftE.bind rs rh q ox fun x h1 v1 H1 q1 r1 rh1 f1 k1 rs1 ox1 => ?_
  refine liftE.bind rs1 rh1 q1 ox1 fun y h2 v2 H2 q2 r2 rh2 f2 k2 _ _ => ?_
  exact ⟨x, y, h2, Qd, r1.keep k2, r2, rh2, q2, out.step (f1.trans f2)⟩
theorem s_cmp (c : Ctx X W k G) {o : COp} {a b : Expr} {pos : Pos} {ra rb : RE} (ha : PE X a (liftE X.K W ra)) (hb : PE X b (liftE X.K W rb)) (hm : okHead b = true) :
    PE X (.Compare a [toC o] [b] pos) (liftE X.K W fun ρ h xq Q => ra ρ h xq fun x h1 => rb ρ h1 xq fun y h2 => cmpD o x y h2 fun k => Q (.bl k) h2) := by
  refine (pe_cmpR (op_cmp c.u64 o) ha hb (mark_ok hm _)).lift fun σ H Q ⟨ρ, h, xq, Qd, rs, rh, q, out, ox⟩ => ?_
  refine liftE.bind rs rh q ox fun x h1 v1 H1 q1 r1 rh1 f1 k1 rs1 ox1 => ?_
  refine liftE.bind rs1 rh1 q1 ox1 fun y h2 v2 H2 q2 r2 rh2 f2 k2 _ _ => ?_
  exact ⟨x, y, h2, fun k => Qd (.bl k) h2, r1.keep k2, r2, rh2, q2, fun b qb => (out.step (f1.trans f2)).bl rh2 qb⟩
theorem s_cmpT (c : Ctx X W k G) {o : COp} {a b : Expr} {pos : Pos} {ra rb : RE} (ha : PE X a (liftE X.K W ra)) (hb : PE X b (liftE X.K W rb)) (hm : okHead b = true) :
    PT X (.Compare a [toC o] [b] pos) (liftT X.K W fun ρ h xq Q => ra ρ h xq fun x h1 => rb ρ h1 xq fun y h2 => cmpD o x y h2 fun k => Q k h2) := by
  refine (pt_cmpR (op_cmp c.u64 o) ha hb (mark_ok hm _)).lift fun σ H Q ⟨ρ, h, xq, Qd, rs, rh, q, out, ox⟩ => ?_
  refine liftE.bind rs rh q ox fun x h1 v1 H1 q1 r1 rh1 f1 k1 rs1 ox1 => ?_
  refine liftE.bind rs1 rh1 q1 ox1 fun y h2 v2 H2 q2 r2 rh2 f2 k2 _ _ => ?_
  exact ⟨x, y, h2, fun k => Qd k h2, r1.keep k2, r2, rh2, q2, fun b qb => ⟨b, rfl, out _ _ _ qb rh2 (f1.trans f2)⟩⟩
theorem marks2 {op op' : CmpOp} {b d : Expr} (h : okHead d = true) : lastMarks [op, op'] [b, d] = false := by
  show behindInMarks op' d = false
  exact mark_ok h op'
theorem chain_core {K : PySem.W.Frag} {σ : L2.St} {H : Hp} {Q : VK} {o o' : COp} {ra rb rd : RE} {ρ : Rho} {h : PH} {xq : XQ} {P : Bool → PH → Prop} (rs : RelS K H ρ σ) (rh : RelH K H h) (ox : OutX K W σ H h xq)
    (q : ra ρ h xq fun x h1 => rb ρ h1 xq fun y h2 => cmpD o x y h2 fun k => match k with
      | true => rd ρ h2 xq fun z h3 => cmpD o' y z h3 fun k => P k h3
      | false => P false h2)
    (out : ∀ b h' H', P b h' → RelH K H' h' → Frm H h H' h' → Q (.bl b) H') : tChain (rCmp K o) (rCmp K o') (liftE K W ra) (liftE K W rb) (liftE K W rd) σ H Q := by
  refine liftE.bind rs rh q ox fun x h1 v1 H1 q1 r1 rh1 f1 k1 rs1 ox1 => ?_
  refine liftE.bind rs1 rh1 q1 ox1 fun y h2 v2 H2 q2 r2 rh2 f2 k2 rs2 ox2 => ?_
  refine ⟨x, y, h2, _, r1.keep k2, r2, rh2, q2, fun b qb => ⟨b, rfl, ?_⟩⟩
  cases b with
  | false => exact iteF (out false h2 H2 qb rh2 (f1.trans f2))
  | true =>
    refine iteT (liftE.bind rs2 rh2 qb ox2 fun z h3 v3 H3 q3 r3 rh3 f3 k3 _ _ => ?_)
    exact ⟨y, z, h3, fun k => P k h3, r2.keep k3, r3, rh3, q3, fun b qb => out b h3 H3 qb rh3 ((f1.trans f2).trans f3)⟩
theorem s_chain (c : Ctx X W k G) {o o' : COp} {a b d : Expr} {pos : Pos} {ra rb rd : RE} (ha : PE X a (liftE X.K W ra)) (hb : PE X b (liftE X.K W rb)) (hd : PE X d (liftE X.K W rd)) (hm : okHead d = true) :
    PE X (.Compare a [toC o, toC o'] [b, d] pos) (liftE X.K W fun ρ h xq Q => ra ρ h xq fun x h1 => rb ρ h1 xq fun y h2 => cmpD o x y h2 fun k => match k with
      | true => rd ρ h2 xq fun z h3 => cmpD o' y z h3 fun k => Q (.bl k) h3
      | false => Q (.bl false) h2) := by
  refine (pe_chain (op_cmp c.u64 o) (op_cmp c.u64 o') ha hb hd (marks2 hm)).lift fun σ H Q ⟨ρ, h, xq, Qd, rs, rh, q, out, ox⟩ => ?_
  exact chain_core (P := fun k h => Qd (.bl k) h) rs rh ox q fun b h' H' qb r f => out _ _ _ _ qb rfl r f
theorem s_chainT (c : Ctx X W k G) {o o' : COp} {a b d : Expr} {pos : Pos} {ra rb rd : RE} (ha : PE X a (liftE X.K W ra)) (hb : PE X b (liftE X.K W rb)) (hd : PE X d (liftE X.K W rd)) (hm : okHead d = true) :
    PT X (.Compare a [toC o, toC o'] [b, d] pos) (liftT X.K W fun ρ h xq Q => ra ρ h xq fun x h1 => rb ρ h1 xq fun y h2 => cmpD o x y h2 fun k => match k with
      | true => rd ρ h2 xq fun z h3 => cmpD o' y z h3 fun k => Q k h3
      | false => Q false h2) := by
  refine (pt_chain (op_cmp c.u64 o) (op_cmp c.u64 o') ha hb hd (marks2 hm)).lift fun σ H Q ⟨ρ, h, xq, Qd, rs, rh, q, out, ox⟩ => ?_
  exact chain_core (P := fun k h => Qd k h) rs rh ox q fun b h' H' qb r f => ⟨b, rfl, out b h' H' qb r f⟩
/-- by truth, as a test -/
theorem s_truth {a : Expr} {ra : RE} (ha : PE X a (liftE X.K W ra)) (hp : plainT a = true) : PT X a (liftT X.K W fun ρ h xq Q => ra ρ h xq fun x h1 => truQ h1 x fun k => Q k h1) := by
  refine (pt_truth ha (isTrue_ok hp _)).lift fun σ H Q ⟨ρ, h, xq, Qd, rs, rh, q, out, ox⟩ => ?_
  refine liftE.bind rs rh q ox fun x h1 v1 H1 q1 r1 rh1 f1 k1 rs1 ox1 => ?_
  obtain ⟨b, t, p⟩ := tru_is rh1 r1 q1
  exact ⟨b, t, out b h1 H1 p rh1 f1⟩
theorem s_not {a : Expr} {pos : Pos} {ra : RE} (ha : PE X a (liftE X.K W ra)) : PE X (.UnaryOp .Not a pos) (liftE X.K W fun ρ h xq Q => ra ρ h xq fun x h1 => truQ h1 x fun b => Q (.bl (!b)) h1) := by
  refine (pe_notT ha).lift fun σ H Q ⟨ρ, h, xq, Qd, rs, rh, q, out, ox⟩ => ?_
  refine liftE.bind rs rh q ox fun x h1 v1 H1 q1 r1 rh1 f1 k1 rs1 ox1 => ?_
  obtain ⟨b, t, p⟩ := tru_is rh1 r1 q1
  exact ⟨b, t, out _ h1 _ H1 p rfl rh1 f1⟩
theorem s_notT {a : Expr} {pos : Pos} {ra : RT} (ha : PT X a (liftT X.K W ra)) : PT X (.UnaryOp .Not a pos) (liftT X.K W fun ρ h xq Q => ra ρ h xq fun b h1 => Q (!b) h1) := by
  refine (pt_not ha).lift fun σ H Q ⟨ρ, h, xq, Qd, rs, rh, q, out, ox⟩ => ?_
  exact liftT.bind rs rh q ox fun b h1 H1 q1 rh1 f1 _ _ _ => out _ h1 H1 q1 rh1 f1
theorem s_ife {t a b : Expr} {pos : Pos} {rt : RT} {ra rb : RE} (ht : PT X t (liftT X.K W rt)) (ha : PE X a (liftE X.K W ra)) (hb : PE X b (liftE X.K W rb)) :
    PE X (.IfExp t a b pos) (liftE X.K W fun ρ h xq Q => rt ρ h xq fun k h1 => match k with
      | true => ra ρ h1 xq Q
      | false => rb ρ h1 xq Q) := by
  refine (pe_ifExp ht ha hb).lift fun σ H Q ⟨ρ, h, xq, Qd, rs, rh, q, out, ox⟩ => ?_
  refine liftT.bind rs rh q ox fun k h1 H1 q1 rh1 f1 _ rs1 ox1 => ?_
  cases k with
  | true => exact iteT ⟨ρ, h1, xq, Qd, rs1, rh1, q1, out.step f1, ox1⟩
  | false => exact iteF ⟨ρ, h1, xq, Qd, rs1, rh1, q1, out.step f1, ox1⟩
theorem s_tup {es : List Expr} {n : Nat} {pos : Pos} {ra : RA} (ha : PA X es (liftA X.K W ra)) : PE X (.Tuple es n pos) (liftE X.K W fun ρ h xq Q => ra ρ h xq fun ds h1 => ds.length ≤ sizeLine ∧ Q (.tup ds) h1) := by
  refine (pe_tup ha).lift fun σ H Q ⟨ρ, h, xq, Qd, rs, rh, q, out, ox⟩ => ?_
  refine liftA.bind rs rh q ox fun ds h1 vs H1 q1 r1 rh1 f1 k1 rs1 ox1 => ?_
  exact ⟨by rw [r1.len]; exact q1.1, fun p hp => (out.step f1).tup rh1 hp q1.2 r1⟩
theorem s_lst {es : List Expr} {pos : Pos} {ra : RA} (ha : PA X es (liftA X.K W ra)) : PE X (.List es pos) (liftE X.K W fun ρ h xq Q => ra ρ h xq fun ds h1 => ds.length ≤ sizeLine ∧ alloc (.lst ds) h1 Q) := by
  refine (pe_lst ha).lift fun σ H Q ⟨ρ, h, xq, Qd, rs, rh, q, out, ox⟩ => ?_
  refine liftA.bind rs rh q ox fun ds h1 vs H1 q1 r1 rh1 f1 k1 rs1 ox1 => ?_
  exact ⟨by rw [r1.len]; exact q1.1, fun p hp => (out.step f1).lst rh1 hp q1.2 r1⟩
theorem s_ix (c : Ctx X W k G) {a b : Expr} {pos : Pos} {ra rb : RE} (ha : PE X a (liftE X.K W ra)) (hb : PE X b (liftE X.K W rb)) (hm : okHead b = true) :
    PE X (.Subscript a b pos) (liftE X.K W fun ρ h xq Q => ra ρ h xq fun x h1 => rb ρ h1 xq fun y h2 => ixD x y h2 Q) := by
  refine (pe_ix (ix_any c.u64) ha hb (plainIx_ok hm)).lift fun σ H Q ⟨ρ, h, xq, Qd, rs, rh, q, out, ox⟩ => ?_
  refine liftE.bind rs rh q ox fun x h1 v1 H1 q1 r1 rh1 f1 k1 rs1 ox1 => ?_
  refine liftE.bind rs1 rh1 q1 ox1 fun y h2 v2 H2 q2 r2 rh2 f2 k2 _ _ => ?_
  exact ⟨x, y, h2, Qd, r1.keep k2, r2, rh2, q2, out.step (f1.trans f2)⟩
def liftO (K : PySem.W.Frag) (W : WX) (r : Rho → PH → XQ → (Option Int → PH → Prop) → Prop) : TO := fun σ H Q => ∃ ρ h xq Qd, RelS K H ρ σ ∧ RelH K H h ∧ r ρ h xq Qd ∧ (∀ i h' H', Qd i h' → RelH K H' h' → Frm H h H' h' → Q i H') ∧ OutX K W σ H h xq
theorem s_none : L2.PO X none (liftO X.K W fun _ h _ Q => Q none h) := by
  constructor
  intro pins s σ H Q I ⟨ρ, h, xq, Qd, rs, rh, q, out, ox⟩
  exact po_none.run pins s σ H Q I (out none h H q rh Frm.refl)
theorem s_some {a : Expr} {ra : RE} (ha : PE X a (liftE X.K W ra)) : L2.PO X (some a) (liftO X.K W fun ρ h xq Q => ra ρ h xq fun x h1 => match x with
    | .int i => Q (some i) h1
    | _ => False) := by
  constructor
  intro pins s σ H Q I ⟨ρ, h, xq, Qd, rs, rh, q, out, ox⟩
  refine (po_some ha).run pins s σ H Q I ?_
  refine liftE.bind rs rh q ox fun x h1 v1 H1 q1 r1 rh1 f1 k1 rs1 ox1 => ?_
  cases x with
  | int i => exact ⟨i, relInt r1, out _ _ _ q1 rh1 f1⟩
  | _ => exact q1.elim
theorem s_sl {a : Expr} {lo hi : Option Expr} {p2 pos : Pos} {ra : RE} {rl rh' : Rho → PH → XQ → (Option Int → PH → Prop) → Prop} (ha : PE X a (liftE X.K W ra)) (hl : L2.PO X lo (liftO X.K W rl)) (hh : L2.PO X hi (liftO X.K W rh')) :
    PE X (.Subscript a (.Slice lo hi none p2) pos) (liftE X.K W fun ρ h xq Q => ra ρ h xq fun x h1 => rl ρ h1 xq fun l h2 => rh' ρ h2 xq fun u h3 => slD x l u h3 Q) := by
  refine (pe_slice sl_any ha hl hh).lift fun σ H Q ⟨ρ, h, xq, Qd, rs, rh, q, out, ox⟩ => ?_
  refine liftE.bind rs rh q ox fun x h1 v1 H1 q1 r1 rh1 f1 k1 rs1 ox1 => ?_
  refine ⟨ρ, h1, xq, _, rs1, rh1, q1, fun l h2 H2 q2 rh2 f2 => ?_, ox1⟩
  have k2 := f2.keeps rh1
  refine ⟨ρ, h2, xq, _, rs1.keep k2, rh2, q2, fun u h3 H3 q3 rh3 f3 => ?_, ox1.step f2⟩
  have k3 := f3.keeps rh2
  exact ⟨x, h3, Qd, (r1.keep k2).keep k3, rh3, q3, out.step ((f1.trans f2).trans f3)⟩
theorem s_rev {a : Expr} {n : Nat} {p1 p2 p3 pos : Pos} {ra : RE} (ha : PE X a (liftE X.K W ra)) :
    PE X (.Subscript a (.Slice none none (some (.UnaryOp .USub (.Constant (.int 1) n p1) p2)) p3) pos) (liftE X.K W fun ρ h xq Q => ra ρ h xq fun x h1 => match rdL h1 x with
      | some ds => alloc (.lst ds.reverse) h1 Q
      | none => False) := by
  refine (pe_revL ha).lift fun σ H Q ⟨ρ, h, xq, Qd, rs, rh, q, out, ox⟩ => ?_
  refine liftE.bind rs rh q ox fun x h1 v1 H1 q1 r1 rh1 f1 k1 rs1 ox1 => ?_
  cases e1 : rdL h1 x with
  | none => rw [e1] at q1; exact q1.elim
  | some ds =>
    rw [e1] at q1
    obtain ⟨b, vs, rfl, hs, rv⟩ := rdL_ok rh1 r1 e1
    exact ⟨b, vs, rfl, hs, fun p hp => (out.step f1).lst rh1 hp q1 rv.reverse⟩
/-- a call of a built-in with one value -/
theorem s_b1 {f : B1} {a : Expr} {x : Str} {p pos : Pos} {id : String} {ra : RE} (hr : CallR X (.builtin id) (rB1 X.K f)) (hg : Gl X x) (hm : X.mg x = none) (hv : bootBuiltins x = some (.builtin id)) (hn : x ≠ "__name__") (hd : (x == ("__debug__" : Str)) = false)
    (ha : PE X a (liftE X.K W ra)) (ok : okHead a = true) : PE X (.Call (.Name x p) [a] [] pos) (liftE X.K W fun ρ h xq Q => ra ρ h xq fun y h1 => b1D f y h1 Q) := by
  refine (pe_callB hr hg hm hv (pa_cons ha pa_nil (star_ok ok _ _)) hn hd (star_ok ok _ _) rfl).lift fun σ H Q ⟨ρ, h, xq, Qd, rs, rh, q, out, ox⟩ => ?_
  refine liftE.bind rs rh q ox fun y h1 v1 H1 q1 r1 rh1 f1 k1 rs1 ox1 => ?_
  exact ⟨v1, y, h1, Qd, rfl, r1, rh1, q1, out.step f1⟩
theorem s_b1t {f : B1} {a : Expr} {x : Str} {p pos : Pos} {T : String} {ra : RE} (hr : CallR X (.type T) (rB1 X.K f)) (hg : Gl X x) (hm : X.mg x = none) (hv : bootBuiltins x = some (.type T)) (hn : x ≠ "__name__") (hd : (x == ("__debug__" : Str)) = false)
    (ha : PE X a (liftE X.K W ra)) (ok : okHead a = true) : PE X (.Call (.Name x p) [a] [] pos) (liftE X.K W fun ρ h xq Q => ra ρ h xq fun y h1 => b1D f y h1 Q) := by
  refine (pe_callTy hr hg hm hv (pa_cons ha pa_nil (star_ok ok _ _)) hn hd (star_ok ok _ _) rfl).lift fun σ H Q ⟨ρ, h, xq, Qd, rs, rh, q, out, ox⟩ => ?_
  refine liftE.bind rs rh q ox fun y h1 v1 H1 q1 r1 rh1 f1 k1 rs1 ox1 => ?_
  exact ⟨v1, y, h1, Qd, rfl, r1, rh1, q1, out.step f1⟩
theorem s_b1any (c : Ctx X W k G) (f : B1) {a : Expr} {p pos : Pos} {ra : RE} (h : bltOk (G.ck X.N) X.env.scope (b1Nm f) = true) (ha : PE X a (liftE X.K W ra)) (ok : okHead a = true) :
    PE X (.Call (.Name (b1Nm f) p) [a] [] pos) (liftE X.K W fun ρ h xq Q => ra ρ h xq fun y h1 => b1D f y h1 Q) := by
  obtain ⟨hg, hm, hd, hn⟩ := bltOk_ok c h
  cases f with
  | len => exact s_b1 (id := "len") b1_len hg hm (by decide +kernel) hn hd ha ok
  | sum => exact s_b1 (id := "sum") (b1_sum c.calm) hg hm (by decide +kernel) hn hd ha ok
  | all => exact s_b1 (id := "all") (b1_all c.calm) hg hm (by decide +kernel) hn hd ha ok
  | any => exact s_b1 (id := "any") (b1_any c.calm) hg hm (by decide +kernel) hn hd ha ok
  | maxL => exact s_b1 (id := "max") (b1_max c.calm) hg hm (by decide +kernel) hn hd ha ok
  | minL => exact s_b1 (id := "min") (b1_min c.calm) hg hm (by decide +kernel) hn hd ha ok
  | int => exact s_b1t (T := "int") b1_int hg hm (by decide +kernel) hn hd ha ok
  | str => exact s_b1t (T := "str") b1_str hg hm (by decide +kernel) hn hd ha ok
  | repr => exact s_b1 (id := "repr") (b1_repr c.u64 c.gd) hg hm (by decide +kernel) hn hd ha ok
  | list => exact s_b1t (T := "list") b1_list hg hm (by decide +kernel) hn hd ha ok
  | tuple => exact s_b1t (T := "tuple") b1_tuple hg hm (by decide +kernel) hn hd ha ok
theorem pa2 {a b : Expr} {ra rb : RE} (ha : PE X a (liftE X.K W ra)) (hb : PE X b (liftE X.K W rb)) (oa : okHead a = true) (ob : okHead b = true) : PA X [a, b] (tCons (liftE X.K W ra) (tCons (liftE X.K W rb) tNil)) :=
  pa_cons ha (pa_cons hb pa_nil (star_ok ob _ _)) (star_ok oa _ _)
theorem plain1 {b : Expr} (ob : okHead b = true) (pos : Pos) (env : Env) : (backTo pos (starEach [b] env)).any (·.1) = false := by
  rw [star_ok ob]
  rfl
theorem s_b2any (c : Ctx X W k G) (f : B2) {a b : Expr} {p pos : Pos} {ra rb : RE} (h : bltOk (G.ck X.N) X.env.scope (b2Nm f) = true) (ha : PE X a (liftE X.K W ra)) (hb : PE X b (liftE X.K W rb)) (oa : okHead a = true) (ob : okHead b = true) :
    PE X (.Call (.Name (b2Nm f) p) [a, b] [] pos) (liftE X.K W fun ρ h xq Q => ra ρ h xq fun x h1 => rb ρ h1 xq fun y h2 => b2D f x y h2 Q) := by
  obtain ⟨hg, hm, hd, hn⟩ := bltOk_ok c h
  have go : ∀ id, bootBuiltins (b2Nm f) = some (.builtin id) → CallR X (.builtin id) (rB2 X.K f) → PE X (.Call (.Name (b2Nm f) p) [a, b] [] pos) (liftE X.K W fun ρ h xq Q => ra ρ h xq fun x h1 => rb ρ h1 xq fun y h2 => b2D f x y h2 Q) := fun id hv hr => by
    refine (pe_callB hr hg hm hv (pa2 ha hb oa ob) hn hd (star_ok oa _ _) (plain1 ob _ _)).lift fun σ H Q ⟨ρ, h, xq, Qd, rs, rh, q, out, ox⟩ => ?_
    refine liftE.bind rs rh q ox fun x h1 v1 H1 q1 r1 rh1 f1 k1 rs1 ox1 => ?_
    refine liftE.bind rs1 rh1 q1 ox1 fun y h2 v2 H2 q2 r2 rh2 f2 k2 _ _ => ?_
    exact ⟨v1, v2, x, y, h2, Qd, rfl, r1.keep k2, r2, rh2, q2, out.step (f1.trans f2)⟩
  cases f with
  | max => exact go "max" (by decide +kernel) (b2_max c.calm)
  | min => exact go "min" (by decide +kernel) (b2_min c.calm)
theorem s_isi (c : Ctx X W k G) (t : Ty) (ht : bltTy t = true) {a : Expr} {p p2 pos : Pos} {ra : RE} (h : bltOk (G.ck X.N) X.env.scope "isinstance" = true) (h2 : bltOk (G.ck X.N) X.env.scope (tyNmS t) = true) (ha : PE X a (liftE X.K W ra)) (oa : okHead a = true) :
    PE X (.Call (.Name "isinstance" p) [a, .Name (tyNmS t) p2] [] pos) (liftE X.K W fun ρ h xq Q => ra ρ h xq fun x h1 => isData x h1 = true ∧ isiD t x h1 fun k => Q (.bl k) h1) := by
  obtain ⟨hg, hm, hd, hn⟩ := bltOk_ok c h
  obtain ⟨hg2, hm2, hd2, hn2⟩ := bltOk_ok c h2
  have hv2 : bootBuiltins (tyNmS t) = some (.type (tyNm t)) := by cases t <;> first | decide +kernel | cases ht
  have pt : PE X (.Name (tyNmS t) p2) (tC (.ty (tyNm t))) := pe_bltn hg2 hm2 hv2 rfl hn2 hd2
  refine (pe_callB (isi_any t ht) hg hm (by decide +kernel) (pa_cons ha (pa_cons pt pa_nil) (star_ok oa _ _)) hn hd (star_ok oa _ _) rfl).lift fun σ H Q ⟨ρ, h, xq, Qd, rs, rh, q, out, ox⟩ => ?_
  refine liftE.bind rs rh q ox fun x h1 v1 H1 q1 r1 rh1 f1 k1 rs1 ox1 => ?_
  exact ⟨v1, x, h1, fun k => Qd (.bl k) h1, rfl, r1, rh1, q1.1, q1.2, fun b qb => (out.step f1).bl rh1 qb⟩
/-- a method of a built-in type -/
theorem s_mth0 (c : Ctx X W k G) (m : Mth) (hm : m ≠ .lindex) {o : Expr} {ap cp : Pos} {ro : RE} (ho : PE X o (liftE X.K W ro)) (hb : call0 o = false) (hl : (ap.endLine == cp.line) = true) :
    PE X (.Call (.Attribute o (mthNm m) ap) [] [] cp) (liftE X.K W fun ρ h xq Q => ro ρ h xq fun x h1 => tyB m x h1 = true ∧ mthD m x [] h1 Q) := by
  refine (pe_bm0 (mth_attrs m) (mth_slot m) (mth_type m) (mth_any c.u64 m hm) ho (base_ok hb _ _ _) hl).lift fun σ H Q ⟨ρ, h, xq, Qd, rs, rh, q, out, ox⟩ => ?_
  refine liftE.bind rs rh q ox fun x h1 v1 H1 q1 r1 rh1 f1 k1 rs1 ox1 => ?_
  exact ⟨tyB_ok rh1 r1 q1.1, x, [], h1, Qd, r1, .nil, rh1, q1.2, out.step f1⟩
theorem few_ok {c : Ck} {sc : Scope} {es : E} {x : Expr} {xs : List Expr} (h : chkA c sc es (x :: xs) = true) (hn : (x :: xs).length < 20) (pos : Pos) (env : Env) :
    ((backTo pos (starEach (x :: xs) env)).all (fun x => !x.1) && (backToKw pos (keywordEach [] env)).all (fun x => x.1.isSome) && decide ((x :: xs).length + ([] : List Keyword).length + (if ([] : List Keyword).isEmpty then 0 else 1) < 30)) = true := by
  rw [stars_all h pos env]
  have z : (x :: xs).length + 0 + 0 < 30 := by omega
  show (true && true && decide ((x :: xs).length + 0 + 0 < 30)) = true
  rw [decide_eq_true z]
  rfl
theorem s_mth (c : Ctx X W k G) (m : Mth) (hm : m ≠ .lindex) {o e : Expr} {es : List Expr} {ap cp : Pos} {ro : RE} {ra : RA} {ir : E} {sc : Scope} (ho : PE X o (liftE X.K W ro)) (hb : call0 o = false) (hl : (ap.endLine == cp.line) = true)
    (hA : chkA (G.ck X.N) sc ir (e :: es) = true) (hn : (e :: es).length < 20) (ha : PA X (e :: es) (liftA X.K W ra)) :
    PE X (.Call (.Attribute o (mthNm m) ap) (e :: es) [] cp) (liftE X.K W fun ρ h xq Q => ro ρ h xq fun x h1 => tyB m x h1 = true ∧ ra ρ h1 xq fun ds h2 => mthD m x ds h2 Q) := by
  obtain ⟨a, r, rfl⟩ := chkA_ncons hA
  obtain ⟨oe, _, hr⟩ := chkA_head hA
  refine (pe_bm (mth_attrs m) (mth_slot m) (mth_type m) (mth_any c.u64 m hm) ho ha (base_ok hb _ _ _) (few_ok hA hn _ _) hl (star_ok oe _ _) (chkA_star hr _ _)).lift fun σ H Q ⟨ρ, h, xq, Qd, rs, rh, q, out, ox⟩ => ?_
  refine liftE.bind rs rh q ox fun x h1 v1 H1 q1 r1 rh1 f1 k1 rs1 ox1 => ?_
  refine ⟨tyB_ok rh1 r1 q1.1, liftA.bind rs1 rh1 q1.2 ox1 fun ds h2 vs H2 q2 r2 rh2 f2 k2 _ _ => ?_⟩
  exact ⟨x, ds, h2, Qd, r1.keep k2, r2, rh2, q2, out.step (f1.trans f2)⟩

/-! ### and, or -/
theorem s_andV {a b : Expr} {rest : List Expr} {pos : Pos} {ra rb : RE} (ha : PE X a (liftE X.K W ra)) (hb : PE X (.BoolOp .And (b :: rest) pos) (liftE X.K W rb)) :
    PE X (.BoolOp .And (a :: b :: rest) pos) (liftE X.K W fun ρ h xq Q => ra ρ h xq fun x h1 => truQ h1 x fun k => match k with
      | true => rb ρ h1 xq Q
      | false => Q x h1) := by
  refine (pe_andT ha hb).lift fun σ H Q ⟨ρ, h, xq, Qd, rs, rh, q, out, ox⟩ => ?_
  refine liftE.bind rs rh q ox fun x h1 v1 H1 q1 r1 rh1 f1 k1 rs1 ox1 => ?_
  obtain ⟨b, t, p⟩ := tru_is rh1 r1 q1
  refine ⟨b, t, ?_⟩
  cases b with
  | true => exact iteT ⟨ρ, h1, xq, Qd, rs1, rh1, p, out.step f1, ox1⟩
  | false => exact iteF (out x h1 v1 H1 p r1 rh1 f1)
theorem s_orV {a b : Expr} {rest : List Expr} {pos : Pos} {ra rb : RE} (ha : PE X a (liftE X.K W ra)) (hb : PE X (.BoolOp .Or (b :: rest) pos) (liftE X.K W rb)) :
    PE X (.BoolOp .Or (a :: b :: rest) pos) (liftE X.K W fun ρ h xq Q => ra ρ h xq fun x h1 => truQ h1 x fun k => match k with
      | true => Q x h1
      | false => rb ρ h1 xq Q) := by
  refine (pe_orT ha hb).lift fun σ H Q ⟨ρ, h, xq, Qd, rs, rh, q, out, ox⟩ => ?_
  refine liftE.bind rs rh q ox fun x h1 v1 H1 q1 r1 rh1 f1 k1 rs1 ox1 => ?_
  obtain ⟨b, t, p⟩ := tru_is rh1 r1 q1
  refine ⟨b, t, ?_⟩
  cases b with
  | true => exact iteT (out x h1 v1 H1 p r1 rh1 f1)
  | false => exact iteF ⟨ρ, h1, xq, Qd, rs1, rh1, p, out.step f1, ox1⟩
theorem s_andT {a b : Expr} {rest : List Expr} {pos : Pos} {ra rb : RT} (ha : PT X a (liftT X.K W ra)) (hb : PW X (.BoolOp .And (b :: rest) pos) (liftT X.K W rb)) :
    PW X (.BoolOp .And (a :: b :: rest) pos) (liftT X.K W fun ρ h xq Q => ra ρ h xq fun k h1 => match k with
      | true => rb ρ h1 xq Q
      | false => Q false h1) := by
  refine (pw_and ha hb).lift fun σ H Q ⟨ρ, h, xq, Qd, rs, rh, q, out, ox⟩ => ?_
  refine liftT.bind rs rh q ox fun b h1 H1 q1 rh1 f1 _ rs1 ox1 => ?_
  cases b with
  | true => exact iteT ⟨ρ, h1, xq, Qd, rs1, rh1, q1, out.step f1, ox1⟩
  | false => exact iteF (out _ h1 H1 q1 rh1 f1)
theorem s_orT {a b : Expr} {rest : List Expr} {pos : Pos} {ra rb : RT} (ha : PT X a (liftT X.K W ra)) (hb : PW X (.BoolOp .Or (b :: rest) pos) (liftT X.K W rb)) :
    PW X (.BoolOp .Or (a :: b :: rest) pos) (liftT X.K W fun ρ h xq Q => ra ρ h xq fun k h1 => match k with
      | true => Q true h1
      | false => rb ρ h1 xq Q) := by
  refine (pw_or ha hb).lift fun σ H Q ⟨ρ, h, xq, Qd, rs, rh, q, out, ox⟩ => ?_
  refine liftT.bind rs rh q ox fun b h1 H1 q1 rh1 f1 _ rs1 ox1 => ?_
  cases b with
  | true => exact iteT (out _ h1 H1 q1 rh1 f1)
  | false => exact iteF ⟨ρ, h1, xq, Qd, rs1, rh1, q1, out.step f1, ox1⟩
theorem s_nil : PA X [] (liftA X.K W fun _ h _ Q => Q [] h) := pa_nil.lift fun σ H Q ⟨ρ, h, xq, Qd, rs, rh, q, out, ox⟩ => out [] h [] H q .nil rh Frm.refl
theorem s_cons {x : Expr} {xs : List Expr} {ra : RE} {rr : RA} (ha : PE X x (liftE X.K W ra)) (hr : PA X xs (liftA X.K W rr)) (ok : okHead x = true) :
    PA X (x :: xs) (liftA X.K W fun ρ h xq Q => ra ρ h xq fun y h1 => rr ρ h1 xq fun ys h2 => Q (y :: ys) h2) := by
  refine (pa_cons ha hr (star_ok ok _ _)).lift fun σ H Q ⟨ρ, h, xq, Qd, rs, rh, q, out, ox⟩ => ?_
  refine liftE.bind rs rh q ox fun y h1 v1 H1 q1 r1 rh1 f1 k1 rs1 ox1 => ?_
  refine liftA.bind rs1 rh1 q1 ox1 fun ys h2 vs H2 q2 r2 rh2 f2 k2 _ _ => ?_
  exact out (y :: ys) h2 (v1 :: vs) H2 q2 (.cons (r1.keep k2) r2) rh2 (f1.trans f2)
/-- a value that hangs on no place and no heap -/
theorem s_val {x : Expr} {d : D} {v : V} (h : PE X x (tC v)) (r : ∀ H, RelD X.K H d v) : PE X x (liftE X.K W fun _ h _ Q => Q d h) :=
  h.lift fun σ H Q ⟨ρ, h, xq, Qd, rs, rh, q, out, ox⟩ => out d h v H q (r H) rh Frm.refl
theorem s_var {i : Nat} {x : Str} {pos : Pos} (hN : X.N[i]? = some x) (hv : Vis X.env.scope x) (hd : (x == ("__debug__" : Str)) = false) (hc : (x == ("__classdict__" : Str)) = false) : PE X (.Name x pos) (liftE X.K W fun ρ h _ Q => match ρ[i]? with
    | some (some d) => Q d h
    | _ => False) := by
  refine (pe_var hN hv hd hc).lift fun σ H Q ⟨ρ, h, xq, Qd, rs, rh, q, out, ox⟩ => ?_
  have q2 : (match ρ[i]? with
    | some (some d) => Qd d h
    | _ => False) := q
  cases e : ρ[i]? with
  | none => rw [e] at q2; exact q2.elim
  | some o =>
    cases o with
    | none => rw [e] at q2; exact q2.elim
    | some d =>
      rw [e] at q2
      obtain ⟨v, hv, r⟩ := rs.2 i d e
      exact ⟨v, hv, out d h v H q2 r rh Frm.refl⟩
theorem s_neg {a : Expr} {pos : Pos} {ra : RE} (ha : PE X a (liftE X.K W ra)) : PE X (.UnaryOp .USub a pos) (liftE X.K W fun ρ h xq Q => ra ρ h xq fun x h1 => match x with
    | .int i => Q (.int (-i)) h1
    | _ => False) := by
  refine (pe_un un_neg ha).lift fun σ H Q ⟨ρ, h, xq, Qd, rs, rh, q, out, ox⟩ => ?_
  refine liftE.bind rs rh q ox fun x h1 v1 H1 q1 r1 rh1 f1 k1 rs1 ox1 => ?_
  cases x with
  | int i => exact ⟨i, relInt r1, (out.step f1).int rh1 q1⟩
  | _ => exact q1.elim
end
end Lit
namespace Lit
open PySem PySem.Spec PyProof.Rows L2
section
variable {X : Cx} {W : WX} {k : Nat} {G : Sig}
/-! ### what is walked -/
theorem rdL_keep {K : PySem.W.Frag} {H : Hp} {h : PH} {d : D} {x : V} {ds : List D} (rh : RelH K H h) (rd : RelD K H d x) (e : rdL h d = some ds) : ∃ a, x = .ref a ∧ ∀ H' h', Keeps H H' → RelH K H' h' → rdL h' d = some ds → ∃ vs, SqL K H' a vs ∧ RelDs K H' ds vs := by
  obtain ⟨a, vs, ex, hs, rv⟩ := rdL_ok rh rd e
  refine ⟨a, ex, fun H' h' kp rh' e' => ?_⟩
  obtain ⟨a', vs', ex', hs', rv'⟩ := rdL_ok rh' (rd.keep kp) e'
  rw [ex] at ex'
  cases ex'
  exact ⟨vs', hs', rv'⟩
/-- what may be walked: a list, a tuple, a text -/
def iWalk (K : PySem.W.Frag) (ta : TE) : TI := fun σ H R => ta σ H fun x H1 => (∃ a, x = .ref a ∧ ((∃ xs, SqL K H1 a xs) ∧ R (Itl K a) H1 ∨ (∃ xs, SqT K H1 a xs) ∧ R (Itt K a) H1)) ∨ ∃ z, x = .str z ∧ R (Its z) H1
theorem pi_walk {tg e : Expr} {ta : TE} (he : PE X e ta) : PI X tg e (iWalk X.K ta) := by
  constructor
  intro pins s σ H R I h
  refine thn (he.run pins s σ H _ I h) fun v s1 ⟨x, H1, I1, r1, q1⟩ => ?_
  rcases q1 with ⟨a, rfl, q1⟩ | ⟨z, rfl, q⟩
  · cases r1
    rcases q1 with ⟨⟨xs, hq⟩, q⟩ | ⟨⟨xs, hq⟩, q⟩
    · obtain ⟨its, _, p, _⟩ := I1.list hq
      exact wpAny_pyIter_list p.isList (pi_one (tk := s1.toks) I1 _ (turn_list a _) ⟨_, Heap.get?_push_size _ rfl, rfl, rfl⟩ q)
    · obtain ⟨its, _, p, _⟩ := I1.tuple hq
      exact wpAny_pyIter_tuple (show s1.heap.IsTuple a its.toArray from p) (pi_one (tk := s1.toks) I1 _ (turn_tuple a _) ⟨_, Heap.get?_push_size _ rfl, rfl, rfl⟩ q)
  · obtain ⟨t, rfl⟩ := r1
    cases ha : z.cps.all (· < 128)
    · exact wpAny_pyIter_wide ha (pi_one (tk := s1.toks) I1 _ (turn_str _ z t "str_iterator" (.inr rfl)) ⟨_, Heap.get?_push_size _ rfl, rfl, rfl⟩ q)
    · exact wpAny_pyIter_ascii ha (pi_one (tk := s1.toks) I1 _ (turn_str _ z t "str_ascii_iterator" (.inl rfl)) ⟨_, Heap.get?_push_size _ rfl, rfl, rfl⟩ q)
theorem wd_list {K : PySem.W.Frag} {H1 : Hp} {h1 : PH} {x : D} {a : Addr} {ds : List D} (rh1 : RelH K H1 h1) (e1 : rdL h1 x = some ds) (kp : ∀ H' h', Keeps H1 H' → RelH K H' h' → rdL h' x = some ds → ∃ vs, SqL K H' a vs ∧ RelDs K H' ds vs) :
    WalkD K H1 h1 (Itl K a) ds fun h' => rdL h' x = some ds := by
  refine ⟨e1, fun H => ∃ h, Frm H1 h1 H h ∧ RelH K H h ∧ rdL h x = some ds, fun i H v H' => H' = H ∧ ∃ d, ds[i]? = some d ∧ RelD K H d v, ⟨fun i H hi ⟨h, f, r, e⟩ => ?_, fun H ⟨h, f, r, e⟩ => ?_, fun i H v H' hi ⟨h, f, r, e⟩ y => ?_⟩, fun H h f r st => ⟨h, f, r, st⟩, fun i H h v H' hi f r st ⟨e, d, hd, rd⟩ => ?_⟩
  · obtain ⟨ws, hw, rw'⟩ := kp H h (f.keeps rh1) r e
    exact ⟨ws, ws[i]'(by rw [rw'.len]; exact hi), hw, by simp⟩
  · obtain ⟨ws, hw, rw'⟩ := kp H h (f.keeps rh1) r e
    exact ⟨ws, hw, by rw [rw'.len]; exact Nat.le_refl _⟩
  · obtain ⟨ws, hw, rw'⟩ := kp H h (f.keeps rh1) r e
    obtain ⟨e', y'⟩ := y
    subst e'
    have z := y' ws hw
    obtain ⟨d, hd, rd⟩ := rw'.get i v z
    exact ⟨rfl, d, hd, rd⟩
  · subst e
    exact ⟨d, hd, rd, r, Frm.refl⟩
theorem wd_tup {K : PySem.W.Frag} {H1 : Hp} {h1 : PH} {b : Addr} {ds : List D} {vs : List V} (rh1 : RelH K H1 h1) (hv : H1 b = some (.tup vs)) (rv : RelDs K H1 ds vs) : WalkD K H1 h1 (Itt K b) ds fun _ => True := by
  have len : vs.length = ds.length := rv.len
  have w := walk_tup (K := K) (a := b) (xs := vs)
  rw [len] at w
  refine ⟨trivial, _, _, w, fun H h f r _ => ?_, fun i H h v H' hi f r _ ⟨e, y⟩ => ?_⟩
  · exact .of ((f.keeps rh1).t _ _ hv)
  · subst e
    obtain ⟨d, hd, rd⟩ := rv.get i v y
    exact ⟨d, hd, rd.keep (f.keeps rh1), r, Frm.refl⟩
theorem wd_str {K : PySem.W.Frag} {H1 : Hp} {h1 : PH} {z : List Nat} : WalkD K H1 h1 (Its (mkS z)) (z.map fun c => D.str [c]) fun _ => True := by
  have w := walk_str (z := mkS z)
  have len : (mkS z).cps.size = (z.map fun c => D.str [c]).length := by simp
  rw [len] at w
  refine ⟨trivial, _, _, w, fun H h f r _ => trivial, fun i H h v H' hi f r _ ⟨e, c, hc, ev⟩ => ?_⟩
  subst e ev
  refine ⟨.str [c], ?_, rfl, r, Frm.refl⟩
  rw [List.getElem?_map]
  have hc' : z[i]? = some c := by simpa using hc
  rw [hc']
  rfl
theorem s_itL {tg a : Expr} {ra : RE} (ha : PE X a (liftE X.K W ra)) : PI X tg a (liftI X.K W fun ρ h xq R => ra ρ h xq fun x h1 => match x with
    | .tup ds => R ds (fun _ => True) h1
    | .str s => R (s.map fun c => .str [c]) (fun _ => True) h1
    | x => match rdL h1 x with
      | some ds => R ds (fun h' => rdL h' x = some ds) h1
      | none => False) := by
  refine (pi_walk ha).lift fun σ H R ⟨ρ, h, xq, Ri, rs, rh, q, out, ox⟩ => ?_
  refine liftE.bind rs rh q ox fun x h1 v1 H1 q1 r1 rh1 f1 k1 rs1 ox1 => ?_
  have go : ∀ x : D, RelD X.K H1 x v1 → (match rdL h1 x with
      | some ds => Ri ds (fun h' => rdL h' x = some ds) h1
      | none => False) → (∃ a, v1 = .ref a ∧ ((∃ xs, SqL X.K H1 a xs) ∧ R (Itl X.K a) H1 ∨ (∃ xs, SqT X.K H1 a xs) ∧ R (Itt X.K a) H1)) ∨ ∃ z, v1 = .str z ∧ R (Its z) H1 := fun x r1 q1 => by
    cases e1 : rdL h1 x with
    | none => rw [e1] at q1; exact q1.elim
    | some ds =>
      rw [e1] at q1
      obtain ⟨b, rfl, kp⟩ := rdL_keep rh1 r1 e1
      obtain ⟨vs, hs, rv⟩ := kp H1 h1 .refl rh1 e1
      exact .inl ⟨b, rfl, .inl ⟨⟨vs, hs⟩, out ds _ h1 _ H1 q1 (wd_list rh1 e1 kp) rh1 f1⟩⟩
  cases x with
  | tup ds =>
    obtain ⟨b, vs, rfl, hv, rv⟩ := relTup r1
    exact .inl ⟨b, rfl, .inr ⟨⟨vs, .of hv⟩, out ds _ h1 _ H1 q1 (wd_tup rh1 hv rv) rh1 f1⟩⟩
  | str z =>
    cases relStr r1
    exact .inr ⟨mkS z, rfl, out _ _ h1 _ H1 q1 wd_str rh1 f1⟩
  | _ => exact go _ r1 q1
theorem nats_get {n i : Nat} (h : i < n) : (natsD n)[i]? = some (.int (i : Int)) := by
  unfold natsD
  rw [List.getElem?_map, List.getElem?_range h]
  rfl
theorem nats_len (n : Nat) : (natsD n).length = n := by simp [natsD]
theorem s_itR1 (c : Ctx X W k G) {tg a : Expr} {p pos : Pos} {ra : RE} (h : bltOk (G.ck X.N) X.env.scope "range" = true) (ha : PE X a (liftE X.K W ra)) (oa : okHead a = true) : PI X tg (.Call (.Name "range" p) [a] [] pos) (liftI X.K W fun ρ h xq R => ra ρ h xq fun x h1 => match x with
    | .int j => -(2 ^ 62) ≤ j ∧ j < 2 ^ 62 ∧ R (natsD j.toNat) (fun _ => True) h1
    | _ => False) := by
  obtain ⟨hg, hm, hd, hn⟩ := bltOk_ok c h
  refine (pi_range1 hg hm (pa_cons ha pa_nil (star_ok oa _ _)) (star_ok oa _ _)).lift fun σ H R ⟨ρ, h, xq, Ri, rs, rh, q, out, ox⟩ => ?_
  refine liftE.bind rs rh q ox fun x h1 v1 H1 q1 r1 rh1 f1 k1 rs1 ox1 => ?_
  cases x with
  | int j =>
    cases relInt r1
    refine ⟨j, rfl, q1.1, q1.2.1, out _ _ h1 _ H1 q1.2.2 ?_ rh1 f1⟩
    have w := walk_range (lo := 0) (n := j.toNat)
    have len := nats_len j.toNat
    refine ⟨trivial, fun _ => True, L2.YFn fun i => .int (0 + (i : Nat)), by rw [len]; exact w, fun H h f r _ => trivial, fun i H h v H' hi f r _ ⟨e, ev⟩ => ?_⟩
    subst e ev
    exact ⟨_, nats_get (by rw [len] at hi; exact hi), by show V.int (0 + (i : Int)) = V.int (i : Int); rw [Int.zero_add], r, Frm.refl⟩
  | _ => exact q1.elim
theorem s_itR2 (c : Ctx X W k G) {tg a b : Expr} {p pos : Pos} {ra rb : RE} (h : bltOk (G.ck X.N) X.env.scope "range" = true) (ha : PE X a (liftE X.K W ra)) (hb : PE X b (liftE X.K W rb)) (oa : okHead a = true) (ob : okHead b = true) :
    PI X tg (.Call (.Name "range" p) [a, b] [] pos) (liftI X.K W fun ρ h xq R => ra ρ h xq fun x h1 => rb ρ h1 xq fun y h2 => match x, y with
    | .int i, .int j => (-(2 ^ 62) ≤ i ∧ i < 2 ^ 62 ∧ -(2 ^ 62) ≤ j ∧ j < 2 ^ 62) ∧ R ((List.range (j - i).toNat).map fun k : Nat => D.int (i + (k : Int))) (fun _ => True) h2
    | _, _ => False) := by
  obtain ⟨hg, hm, hd, hn⟩ := bltOk_ok c h
  have st : starEach [a, b] X.env = [(false, eval a X.env), (false, eval b X.env)] := by rw [star_ok oa, star_ok ob]; rfl
  have st2 : starEach [b] X.env = [(false, eval b X.env)] := by rw [star_ok ob]; rfl
  refine (pi_range2 hg hm (pa2 ha hb oa ob) st st2).lift fun σ H R ⟨ρ, h, xq, Ri, rs, rh, q, out, ox⟩ => ?_
  refine liftE.bind rs rh q ox fun x h1 v1 H1 q1 r1 rh1 f1 k1 rs1 ox1 => ?_
  refine liftE.bind rs1 rh1 q1 ox1 fun y h2 v2 H2 q2 r2 rh2 f2 k2 _ _ => ?_
  cases x with
  | int i =>
    cases y with
    | int j =>
      cases relInt r1
      cases relInt r2
      refine ⟨i, j, rfl, q2.1, out _ _ h2 _ H2 q2.2 ?_ rh2 (f1.trans f2)⟩
      have w := walk_range (lo := i) (n := (j - i).toNat)
      have len : ((List.range (j - i).toNat).map fun k : Nat => D.int (i + (k : Int))).length = (j - i).toNat := by simp
      refine ⟨trivial, fun _ => True, L2.YFn fun m => .int (i + (m : Nat)), by rw [len]; exact w, fun H h f r _ => trivial, fun m H h v H' hi f r _ ⟨e, ev⟩ => ?_⟩
      subst e ev
      rw [len] at hi
      refine ⟨.int (i + (m : Int)), ?_, rfl, r, Frm.refl⟩
      rw [List.getElem?_map, List.getElem?_range hi]
      rfl
    | _ => exact q2.elim
  | _ => exact q2.elim
theorem pairs_get : ∀ {xs ys : List D} {i : Nat} {x y : D}, xs[i]? = some x → ys[i]? = some y → (pairsD xs ys)[i]? = some (.tup [x, y])
  | [], _, _, _, _, e, _ => by simp at e
  | _ :: _, [], _, _, _, _, e => by simp at e
  | a :: xs, b :: ys, 0, _, _, e, f => by simp at e f; subst e f; rfl
  | a :: xs, b :: ys, i + 1, x, y, e, f => by
    show (pairsD xs ys)[i]? = _
    exact pairs_get (by simpa using e) (by simpa using f)
theorem pairs_len : ∀ {xs ys : List D}, (pairsD xs ys).length = min xs.length ys.length
  | [], _ => by simp [pairsD]
  | _ :: _, [] => by simp [pairsD]
  | a :: xs, b :: ys => by
    show (pairsD xs ys).length + 1 = _
    rw [pairs_len]
    simp only [List.length_cons]
    omega
/-- a pair newly laid -/
theorem pair_ok {K : PySem.W.Frag} {H : Hp} {h : PH} {T : Addr} {x y : V} {d e : D} (rh : RelH K H h) (n : H T = none) (rd : RelD K H d x) (re : RelD K H e y) :
    RelD K (upd H T (.tup [x, y])) (.tup [d, e]) (.ref T) ∧ RelH K (upd H T (.tup [x, y])) h ∧ Frm H h (upd H T (.tup [x, y])) h := by
  have kp : Keeps H (upd H T (.tup [x, y])) := Stay.upd.keeps (.free n)
  refine ⟨?_, rh.laid n (rh.free n), .laid n⟩
  simp only [RelD]
  exact ⟨T, [x, y], rfl, upd_same, .cons (rd.keep kp) (.one (re.keep kp))⟩
theorem s_itEL (c : Ctx X W k G) {a : Expr} {elts : List Expr} {kk : Nat} {tpos p pos : Pos} {ra : RE} (h : bltOk (G.ck X.N) X.env.scope "enumerate" = true) (ha : PE X a (liftE X.K W ra)) (oa : okHead a = true) :
    PI X (.Tuple elts kk tpos) (.Call (.Name "enumerate" p) [a] [] pos) (liftI X.K W fun ρ h xq R => ra ρ h xq fun x h1 => match rdL h1 x with
    | some ds => R (pairsD (natsD ds.length) ds) (fun h' => rdL h' x = some ds) h1
    | none => False) := by
  obtain ⟨hg, hm, hd, hn⟩ := bltOk_ok c h
  refine (pi_enum hg hm (pa_cons ha pa_nil (star_ok oa _ _)) (star_ok oa _ _)).lift fun σ H R ⟨ρ, h, xq, Ri, rs, rh, q, out, ox⟩ => ?_
  refine liftE.bind rs rh q ox fun x h1 v1 H1 q1 r1 rh1 f1 k1 rs1 ox1 => ?_
  cases e1 : rdL h1 x with
  | none => rw [e1] at q1; exact q1.elim
  | some ds =>
    rw [e1] at q1
    obtain ⟨b, rfl, kp⟩ := rdL_keep rh1 r1 e1
    obtain ⟨vs, hs, rv⟩ := kp H1 h1 .refl rh1 e1
    refine ⟨b, vs, rfl, hs, out _ _ h1 _ H1 q1 ?_ rh1 f1⟩
    have len : (pairsD (natsD ds.length) ds).length = ds.length := by rw [pairs_len, nats_len]; exact Nat.min_self _
    refine ⟨e1, fun H => ∃ h, Frm H1 h1 H h ∧ RelH X.K H h ∧ rdL h x = some ds, fun i H v H' => ∃ T y d, v = .ref T ∧ H T = none ∧ H' = upd H T (.tup [.int (i : Nat), y]) ∧ ds[i]? = some d ∧ RelD X.K H d y, ⟨fun i H hi ⟨h, f, r, e⟩ => ?_, fun H ⟨h, f, r, e⟩ => ?_, fun i H v H' hi ⟨h, f, r, e⟩ y => ?_⟩,
      fun H h f r st => ⟨h, f, r, st⟩, fun i H h v H' hi f r st ⟨T, y, d, ev, hT, eH, hd, rd⟩ => ?_⟩
    · obtain ⟨ws, hw, rw'⟩ := kp H h (f.keeps rh1) r e
      rw [len] at hi
      exact (walk_enum (K := X.K) (a := b) (xs := ws)).goes i H (by rw [rw'.len]; exact hi) hw
    · obtain ⟨ws, hw, rw'⟩ := kp H h (f.keeps rh1) r e
      have z := (walk_enum (K := X.K) (a := b) (xs := ws)).stops H hw
      rw [rw'.len] at z
      rw [len]
      exact z
    · obtain ⟨ws, hw, rw'⟩ := kp H h (f.keeps rh1) r e
      rw [len] at hi
      obtain ⟨T, x1, y1, ev, hT, eH, ex, ey⟩ := (walk_enum (K := X.K) (a := b) (xs := ws)).yields i H v H' (by rw [rw'.len]; exact hi) hw y
      obtain ⟨d, hd, rd⟩ := rw'.get i y1 ey
      cases Option.some.inj ex
      exact ⟨T, y1, d, ev, hT, eH, hd, rd⟩
    · subst ev eH
      rw [len] at hi
      obtain ⟨p1, p2, p3⟩ := pair_ok (d := .int (i : Nat)) r hT rfl rd
      exact ⟨_, pairs_get (nats_get hi) hd, p1, p2, p3⟩

/-! ### targets -/
mutual
def tgG (K : PySem.W.Frag) : Tg → TG
  | .nm i => gName i
  | .tup l => gTup K (tgLen l) (tgGs K l)
  | _ => fun _ _ _ _ => False
def tgGs (K : PySem.W.Frag) : Tg → TGs
  | .nil => gNil
  | .cons t l => gCons (tgG K t) (tgGs K l)
  | _ => fun _ _ _ _ => False
def tgLen : Tg → Nat
  | .cons _ l => tgLen l + 1
  | _ => 0
end
theorem asg_each : ∀ {c : Ck} {sc : Scope} {bo : Option Scope} {l : Tg} {es : List Expr}, chkTgs c sc bo l es = true → ∀ env : Env, (assignEach es env).length = tgLen l ∧ (assignEach es env).findIdx? (·.1) = none
  | _, _, _, .nil, [], _, _ => ⟨rfl, rfl⟩
  | c, sc, bo, .cons t l, e :: es, h, env => by
    simp only [chkTgs] at h
    obtain ⟨h1, h2⟩ := an h
    obtain ⟨h3, _⟩ := an h1
    obtain ⟨i1, i2⟩ := asg_each h2 env
    have st : assignEach (e :: es) env = (false, assign e env) :: assignEach es env := by cases e <;> first | rfl | cases h3
    rw [st]
    refine ⟨?_, ?_⟩
    · show (assignEach es env).length + 1 = tgLen l + 1
      rw [i1]
    · rw [List.findIdx?_cons]
      simp [i2]
  | _, _, _, .nil, _ :: _, h, _ => by simp only [chkTgs] at h; cases h
  | _, _, _, .cons _ _, [], h, _ => by simp only [chkTgs] at h; cases h
  | _, _, _, .nm _, _, h, _ => by simp only [chkTgs] at h; cases h
  | _, _, _, .tup _, _, h, _ => by simp only [chkTgs] at h; cases h
/-- stored names of the context -/
def Stores (X : Cx) (bo : Option Scope) : Prop := ∀ x, stB X.env.scope bo x = true → Loc X.env.scope x ∧ (X.fn x = true ∨ X.env.scope.names.lookup x = some .local)
mutual
theorem pg_tg {N : List Str} {bo : Option Scope} (c : Ctx X W k G) (hst : Stores X bo) : ∀ {t : Tg} {e : Expr}, chkTg (G.ck X.N) X.env.scope bo t e = true → PG X e (tgG X.K t)
  | .nm i, .Name x _, h => by
    simp only [chkTg] at h
    obtain ⟨h1, h2⟩ := an h
    obtain ⟨l, f⟩ := hst x h2
    exact pg_name c.nd (of_decide_eq_true h1) l f
  | .tup l, .Tuple es _ _, h => by
    simp only [chkTg] at h
    obtain ⟨a1, a2⟩ := asg_each h X.env
    exact pg_tup c.calm (pgs_tg (N := N) c hst h) a1 a2
  | .nil, _, h => by simp only [chkTg] at h; cases h
  | .cons _ _, _, h => by simp only [chkTg] at h; cases h
theorem pgs_tg {N : List Str} {bo : Option Scope} (c : Ctx X W k G) (hst : Stores X bo) : ∀ {t : Tg} {es : List Expr}, chkTgs (G.ck X.N) X.env.scope bo t es = true → PGs X es (tgGs X.K t)
  | .nil, [], _ => pgs_nil
  | .cons t l, e :: es, h => by
    simp only [chkTgs] at h
    obtain ⟨h1, h2⟩ := an h
    obtain ⟨h3, h4⟩ := an h1
    have st : assignEach (e :: es) X.env = (false, assign e X.env) :: assignEach es X.env := by cases e <;> first | rfl | cases h3
    exact pgs_cons (pg_tg (N := N) c hst h4) (pgs_tg (N := N) c hst h2) (by rw [st]; rfl)
  | .nil, _ :: _, h => by simp only [chkTgs] at h; cases h
  | .cons _ _, [], h => by simp only [chkTgs] at h; cases h
  | .nm _, _, h => by simp only [chkTgs] at h; cases h
  | .tup _, _, h => by simp only [chkTgs] at h; cases h
end
theorem wipe_get (σ : L2.St) : ∀ (vs : List Nat) (j : Nat), (wipe σ vs)[j]? = if j ∈ vs ∧ j < σ.length then some none else σ[j]?
  | [], j => by simp [wipe]
  | v :: vs, j => by
    unfold wipe
    by_cases e : v = j
    · subst e
      by_cases hl : v < σ.length
      · rw [List.getElem?_set_self (by rw [wipe_length]; exact hl), if_pos ⟨by simp, hl⟩]
      · rw [List.getElem?_eq_none (by rw [List.length_set, wipe_length]; omega), if_neg (by omega), List.getElem?_eq_none (by omega)]
    · rw [List.getElem?_set_ne e, wipe_get σ vs j]
      have m : (j ∈ v :: vs ∧ j < σ.length) ↔ (j ∈ vs ∧ j < σ.length) := by
        rw [List.mem_cons]
        constructor
        · rintro ⟨a | a, b⟩
          · exact absurd a.symm e
          · exact ⟨a, b⟩
        · rintro ⟨a, b⟩
          exact ⟨.inr a, b⟩
      by_cases q : j ∈ vs ∧ j < σ.length
      · rw [if_pos q, if_pos (m.mpr q)]
      · rw [if_neg q, if_neg fun z => q (m.mp z)]
theorem wipe_set {σ : L2.St} {vs : List Nat} {i : Nat} (hi : i ∈ vs) (v : Option V) : wipe (σ.set i v) vs = wipe σ vs := by
  apply List.ext_getElem?
  intro j
  rw [wipe_get, wipe_get, List.length_set]
  by_cases q : j ∈ vs ∧ j < σ.length
  · rw [if_pos q, if_pos q]
  · rw [if_neg q, if_neg q]
    by_cases e : i = j
    · subst e
      have hl : ¬ i < σ.length := fun z => q ⟨hi, z⟩
      rw [List.getElem?_eq_none (by rw [List.length_set]; omega), List.getElem?_eq_none (by omega)]
    · rw [List.getElem?_set_ne e]
theorem wipe_wipe (σ : L2.St) (vs : List Nat) : wipe (wipe σ vs) vs = wipe σ vs := by
  apply List.ext_getElem?
  intro j
  rw [wipe_get, wipe_length]
  by_cases q : j ∈ vs ∧ j < σ.length
  · rw [if_pos q, wipe_get, if_pos q]
  · rw [if_neg q]
theorem wipeR_rel {K : PySem.W.Frag} {H : Hp} {ρ : Rho} {σ : L2.St} (r : RelS K H ρ σ) : ∀ vs : List Nat, RelS K H (wipeR ρ vs) (wipe σ vs)
  | [] => r
  | v :: vs => by
    unfold wipeR wipe
    exact (wipeR_rel r vs).drop v
mutual
theorem asg_ok {K : PySem.W.Frag} {H : Hp} : ∀ {t : Tg} {d : D} {ρ ρ1 : Rho} {x : V} {σ : L2.St} {vs : List Nat} {Q : L2.St → Hp → Prop}, asg t d ρ = some ρ1 → RelD K H d x → RelS K H ρ σ → (∀ i ∈ tgSlots t, i ∈ vs) →
    (∀ σ1, RelS K H ρ1 σ1 → wipe σ1 vs = wipe σ vs → Q σ1 H) → tgG K t x σ H Q
  | .nm i, d, ρ, ρ1, x, σ, vs, Q, e, r, rs, hs, kk => by
    cases e
    show Q (σ.set i (some x)) H
    exact kk _ (rs.set r i) (wipe_set (hs i (by simp [tgSlots])) _)
  | .tup l, .tup ds, ρ, ρ1, x, σ, vs, Q, e, r, rs, hs, kk => by
    obtain ⟨a, ws, rfl, hv, rv⟩ := relTup r
    have e' : asgs l ds ρ = some ρ1 := by simpa only [asg] using e
    show gTup K (tgLen l) (tgGs K l) (.ref a) σ H Q
    exact ⟨a, ws, rfl, .of hv, by rw [rv.len]; exact asgs_len e', asgs_ok e' rv rs (by simpa only [tgSlots] using hs) kk⟩
  | .tup _, .non, _, _, _, _, _, _, e, _, _, _, _ => by simp only [asg] at e; cases e
  | .tup _, .bl _, _, _, _, _, _, _, e, _, _, _, _ => by simp only [asg] at e; cases e
  | .tup _, .int _, _, _, _, _, _, _, e, _, _, _, _ => by simp only [asg] at e; cases e
  | .tup _, .str _, _, _, _, _, _, _, e, _, _, _, _ => by simp only [asg] at e; cases e
  | .tup _, .ref _, _, _, _, _, _, _, e, _, _, _, _ => by simp only [asg] at e; cases e
  | .tup _, .rol _, _, _, _, _, _, _, e, _, _, _, _ => by simp only [asg] at e; cases e
  | .nil, _, _, _, _, _, _, _, e, _, _, _, _ => by simp only [asg] at e; cases e
  | .cons _ _, _, _, _, _, _, _, _, e, _, _, _, _ => by simp only [asg] at e; cases e
theorem asgs_len : ∀ {l : Tg} {ds : List D} {ρ ρ1 : Rho}, asgs l ds ρ = some ρ1 → ds.length = tgLen l
  | .nil, [], _, _, _ => rfl
  | .cons t l, d :: ds, ρ, ρ1, e => by
    simp only [asgs] at e
    cases e1 : asg t d ρ with
    | none => rw [e1] at e; cases e
    | some ρ' =>
      rw [e1] at e
      show ds.length + 1 = tgLen l + 1
      rw [asgs_len e]
  | .nil, _ :: _, _, _, e => by simp only [asgs] at e; cases e
  | .cons _ _, [], _, _, e => by simp only [asgs] at e; cases e
  | .nm _, _, _, _, e => by simp only [asgs] at e; cases e
  | .tup _, _, _, _, e => by simp only [asgs] at e; cases e
theorem asgs_ok {K : PySem.W.Frag} {H : Hp} : ∀ {l : Tg} {ds : List D} {ρ ρ1 : Rho} {xs : List V} {σ : L2.St} {vs : List Nat} {Q : L2.St → Hp → Prop}, asgs l ds ρ = some ρ1 → RelDs K H ds xs → RelS K H ρ σ → (∀ i ∈ tgSlots l, i ∈ vs) →
    (∀ σ1, RelS K H ρ1 σ1 → wipe σ1 vs = wipe σ vs → Q σ1 H) → tgGs K l xs σ H Q
  | .nil, [], ρ, ρ1, xs, σ, vs, Q, e, r, rs, hs, kk => by
    simp only [asgs] at e
    cases e
    simp only [RelDs] at r
    subst r
    exact ⟨rfl, kk σ rs rfl⟩
  | .cons t l, d :: ds, ρ, ρ1, xs, σ, vs, Q, e, r, rs, hs, kk => by
    simp only [asgs] at e
    simp only [RelDs] at r
    obtain ⟨v, ws, rfl, r1, r2⟩ := r
    cases e1 : asg t d ρ with
    | none => rw [e1] at e; cases e
    | some ρ' =>
      rw [e1] at e
      refine ⟨v, ws, rfl, asg_ok e1 r1 rs (fun i hi => hs i (by simp only [tgSlots, List.mem_append]; exact .inl hi)) fun σ1 rs1 w1 => ?_⟩
      exact asgs_ok e r2 rs1 (fun i hi => hs i (by simp only [tgSlots, List.mem_append]; exact .inr hi)) fun σ2 rs2 w2 => kk σ2 rs2 (w2.trans w1)
  | .nil, _ :: _, _, _, _, _, _, _, e, _, _, _, _ => by simp only [asgs] at e; cases e
  | .cons _ _, [], _, _, _, _, _, _, e, _, _, _, _ => by simp only [asgs] at e; cases e
  | .nm _, _, _, _, _, _, _, _, e, _, _, _, _ => by simp only [asgs] at e; cases e
  | .tup _, _, _, _, _, _, _, _, e, _, _, _, _ => by simp only [asgs] at e; cases e
end
end
end Lit
namespace Lit
open PySem PySem.Spec PyProof.Rows L2
section
variable {K : PySem.W.Frag} {H H' : Hp} {h h' : PH} {x : Addr}
/-- a place that is not told is put otherwise -/
theorem RelH.aside {u : HO} (r : RelH K H h) (n : NoT H x) (hn : h x = none) : RelH K (upd H x u) h := fun b ob e => by
  have hb : b ≠ x := fun z => by rw [z, hn] at e; cases e
  exact RelO.keep (K := K) (a := b) (Stay.upd.keeps n) (fun w z => by rw [upd_ne hb]; exact z) (r b ob e)
/-- .. a place that was free at first -/
theorem Frm.aside {H1 : Hp} {h1 : PH} {u : HO} (f : Frm H1 h1 H h) (n : H1 x = none) : Frm H1 h1 (upd H x u) h := fun b w e nn => by
  rw [upd_ne (fun z => by rw [z, n] at e; cases e)]
  exact f b w e nn
theorem Frm.told {H1 : Hp} {h1 : PH} {o : PO} (f : Frm H1 h1 H h) (n : H1 x = none) : Frm H1 h1 H (updP h x o) := fun b w e nn => by
  rw [updP_ne (fun z => by rw [z, n] at e; cases e)]
  exact f b w e nn
theorem RelH.tell {o : PO} (r : RelH K H h) (q : RelO K H x o) : RelH K H (updP h x o) := fun b ob e => by
  by_cases hb : b = x
  · subst hb
    rw [updP_same] at e
    cases e
    exact q
  · rw [updP_ne hb] at e
    exact r b ob e
end
theorem ext_upd {h : PH} {D : Addr} {o : PO} (n : h D = none) : Ext h (updP h D o) := fun b u e => by
  rw [updP_ne (fun z => by rw [z, n] at e; cases e)]
  exact e
theorem drop_some {α : Type} : ∀ {l : List α} {i : Nat} {d : α}, l[i]? = some d → l.drop i = d :: l.drop (i + 1)
  | [], _, _, e => by simp at e
  | a :: l, 0, d, e => by simp at e; subst e; rfl
  | a :: l, i + 1, d, e => by
    show l.drop i = d :: l.drop (i + 1)
    exact drop_some (by simpa using e)
/-- a comprehension's turns -/
theorem lc_lift {K : PySem.W.Frag} {W : WX} {it : RI} {cond : RT} {elt : RE} {tg : Tg} {vs : List Nat} {wi : TI} (hw : ∀ σ H R, liftI K W it σ H R → wi σ H R) (ht : ∀ i ∈ tgSlots tg, i ∈ vs) :
    ∀ σ H Q, liftE K W (fun ρ h xq Q => it ρ h xq fun items stay h1 => compLoop tg vs cond elt stay ρ items [] h1 fun acc h2 => alloc (.lst acc) h2 Q) σ H Q →
      tLc wi (tgG K tg) (liftT K (fun _ _ _ _ => False) cond) (liftE K (fun _ _ _ _ => False) elt) vs σ H Q := fun σ H Q ⟨ρ, h, xq, Qd, rs, rh, q, out, ox⟩ => by
  refine hw _ _ _ ?_
  refine liftI.bind rs rh q ox fun items stay h1 J H1 q1 wd rh1 f1 k1 rs1 ox1 => ?_
  intro D hD
  obtain ⟨st1, G, Y, w, hG, hY⟩ := wd
  refine lc_it w (fun i H => ∃ h acc ws, RelH K H h ∧ Frm H1 h1 H h ∧ H D = some (.lst ws) ∧ RelDs K H acc ws ∧ h D = none ∧ stay h ∧ compLoop tg vs cond elt stay ρ (items.drop i) acc h fun acc h2 => alloc (.lst acc) h2 Qd) ?_ ?_ ?_ ?_
  · exact ⟨h1, [], [], rh1.laid hD (rh1.free hD), .laid hD, upd_same, .nil, rh1.free hD, st1, q1⟩
  · rintro i H - ⟨h, acc, ws, rh, f, _, _, _, st, _⟩
    exact hG H h f rh st
  · rintro i x H H' hi ⟨h, acc, ws, rh, f, hDl, rd, hDn, st, cl⟩ y
    obtain ⟨d, hd, rx, rh', f'⟩ := hY i H h x H' hi f rh st y
    rw [drop_some hd] at cl
    simp only [compLoop] at cl
    cases ea : asg tg d (wipeR ρ vs) with
    | none => rw [ea] at cl; exact cl.elim
    | some ρ1 =>
      rw [ea] at cl
      have fx := f.trans f'
      have kx := fx.keeps rh1
      refine asg_ok ea rx (wipeR_rel (rs1.keep kx) vs) ht fun σ1 rsA wA => ⟨wA.trans (wipe_wipe _ _), ?_⟩
      refine liftT.bind rsA rh' cl OutX.none fun b h2 H2 q2 rh2 f2 k2 rs2 _ => ?_
      have fD := (f' D _ hDl hDn)
      have fD2 := f2 D _ fD.1 fD.2
      have fx2 := fx.trans f2
      have k02 := (f'.trans f2).keeps rh
      cases b with
      | false =>
        rw [if_neg (by decide)]
        exact ⟨h2, acc, ws, rh2, fx2, fD2.1, rd.keep k02, fD2.2, q2.1, q2.2⟩
      | true =>
        rw [if_pos rfl]
        refine liftE.bind rs2 rh2 q2 OutX.none fun y h3 v H3 q3 r3 rh3 f3 k3 _ _ => ?_
        have fD3 := f3 D _ fD2.1 fD2.2
        have nt : NoT H3 D := .of fD3.1 (fun _ c => nomatch c) (fun _ _ c => nomatch c) fun _ c => nomatch c
        have kd : Keeps H3 (upd H3 D (.lst (ws ++ [v]))) := Stay.upd.keeps nt
        have rdd : RelDs K H3 acc ws := (rd.keep k02).keep k3
        refine ⟨ws, fD3.1, by rw [rdd.len]; exact q3.1, h3, acc ++ [y], ws ++ [v], rh3.aside nt fD3.2, (fx2.trans f3).aside hD, upd_same, ((rdd.append (.one r3))).keep kd, fD3.2, q3.2.1, q3.2.2⟩
  · rintro H2 ⟨h2, acc, ws, rh2, f2, hDl, rd, hDn, st, cl⟩
    rw [List.drop_length] at cl
    simp only [compLoop] at cl
    have al := cl D (updP h2 D (.lst acc)) hDn updP_same (ext_upd hDn)
    exact (out.step f1) _ _ (.ref D) H2 al (by simp only [RelD]) (rh2.tell ⟨ws, hDl, rd⟩) (f2.told hD)
theorem len_nats : ∀ (vs : List Nat) (N : List Str), (vs.map fun i => (N.getD i "", i)).map (·.2) = vs
  | [], _ => rfl
  | v :: vs, N => by simp [List.map_map, Function.comp_def]
section
variable {X : Cx} {W : WX} {k : Nat} {G : Sig}
theorem stores_blk {s : Shared} {H : Hp} {scope : Scope} {cl : List (Str × Addr)} {C : Addr} {fp : List Addr} : Stores (X.blk s H scope (compEnvC scope cl C X.env) fp) (some scope) := fun x h => by
  have sc : (X.blk s H scope (compEnvC scope cl C X.env) fp).env.scope = relS scope X.env.scope := rfl
  rw [sc] at h ⊢
  unfold stB at h
  simp only [Option.getD_some] at h
  split at h
  · rename_i e
    have z := lookup_relS_keep (sc := X.env.scope) (by decide : NameKind.local ≠ .free) e
    exact ⟨.inl z, .inr z⟩
  · rename_i e
    have z := lookup_relS_keep (sc := X.env.scope) (by decide : NameKind.cell ≠ .free) e
    refine ⟨.inr z, .inl ?_⟩
    show (scope.names.lookup x == some NameKind.cell) = true
    rw [e]
    rfl
  · cases h
theorem s_comp (c : Ctx X W k G) {elt tg iter : Expr} {ifs : List Expr} {scope : Scope} {pos : Pos} {ri : RI} {rc : RT} {re : RE} {t : Tg} {vs : List Nat} (hi : PI X tg iter (liftI X.K W ri)) (hb : blkC X.N X.env.scope scope (vs.map fun i => (X.N.getD i "", i)) = true)
    (hg : chkTg (G.ck X.N) (relS scope X.env.scope) (some scope) t tg = true) (hv : (tgSlots t).all (fun i => vs.contains i) = true) (oi : okHead iter = true)
    (ht : ∀ (s : Shared) (H : Hp) (C : Addr) (cl : List (Str × Addr)) (fp : List Addr), PTs (X.blk s H scope (compEnvC scope cl C X.env) fp) ifs (liftT X.K (fun _ _ _ _ => False) rc))
    (he : ∀ (s : Shared) (H : Hp) (C : Addr) (cl : List (Str × Addr)) (fp : List Addr), PE (X.blk s H scope (compEnvC scope cl C X.env) fp) elt (liftE X.K (fun _ _ _ _ => False) re)) :
    PE X (.ListComp elt [⟨tg, iter, ifs, 0⟩] scope pos) (liftE X.K W fun ρ h xq Q => ri ρ h xq fun items stay h1 => compLoop t vs rc re stay ρ items [] h1 fun acc h2 => alloc (.lst acc) h2 Q) := by
  have p := pe_lc (elt := elt) (pos := pos) (g := tgG X.K t) c.calm c.nd hi (blkOk_by hb) (fun s H C cl fp => pg_tg (N := []) (c.blk s H scope (compEnvC scope cl C X.env) fp) stores_blk hg) ht he (folded_ok oi _)
  rw [len_nats] at p
  refine p.lift (lc_lift (fun _ _ _ z => z) fun i hi => ?_)
  have z := List.all_eq_true.mp hv i hi
  simpa using z
theorem s_setLc (c : Ctx X W k G) {i : Nat} {y : Str} {py spos : Pos} {elt tg iter : Expr} {ifs : List Expr} {scope : Scope} {pos : Pos} {ri : RI} {rc : RT} {re : RE} {t : Tg} {vs : List Nat} (hy : X.N[i]? = some y) (hyl : X.env.scope.names.lookup y = some .local)
    (hsw : swapsWith (.ListComp elt [⟨tg, iter, ifs, 0⟩] scope pos) (some (.Name y py)) spos.line X.env = pure true) (hi : PI X tg iter (liftI X.K W ri)) (hb : blkC X.N X.env.scope scope (vs.map fun i => (X.N.getD i "", i)) = true)
    (hg : chkTg (G.ck X.N) (relS scope X.env.scope) (some scope) t tg = true) (hv : (tgSlots t).all (fun i => vs.contains i) = true) (oi : okHead iter = true)
    (ht : ∀ (s : Shared) (H : Hp) (C : Addr) (cl : List (Str × Addr)) (fp : List Addr), PTs (X.blk s H scope (compEnvC scope cl C X.env) fp) ifs (liftT X.K (fun _ _ _ _ => False) rc))
    (he : ∀ (s : Shared) (H : Hp) (C : Addr) (cl : List (Str × Addr)) (fp : List Addr), PE (X.blk s H scope (compEnvC scope cl C X.env) fp) elt (liftE X.K (fun _ _ _ _ => False) re)) :
    PS X (.Assign [.Name y py] (.ListComp elt [⟨tg, iter, ifs, 0⟩] scope pos) spos) (tAsg (liftE X.K W fun ρ h xq Q => ri ρ h xq fun items stay h1 => compLoop t vs rc re stay ρ items [] h1 fun acc h2 => alloc (.lst acc) h2 Q) (gName i)) := by
  have p := ps_setLc (elt := elt) (pos := pos) (g := tgG X.K t) c.calm c.nd hy hyl hsw hi (blkOk_by hb) (fun s H C cl fp => pg_tg (N := []) (c.blk s H scope (compEnvC scope cl C X.env) fp) stores_blk hg) ht he (folded_ok oi _)
  rw [len_nats] at p
  refine p.lift fun D σ H q => lc_lift (fun _ _ _ z => z) (fun i hi => ?_) σ H _ q
  have z := List.all_eq_true.mp hv i hi
  simpa using z
end
end Lit
namespace Lit
open PySem PySem.Spec PyProof.Rows L2
section
variable {c : Ck} {sc : Scope} {x : Expr}
theorem inv_var {i : Nat} {x0 : Expr} (h : chkE c sc (.var i) x0 = true) : ∃ x pos, x0 = (.Name x pos : Expr) ∧ (decide (c.N[i]? = some x) && visB sc x && noDbg x) = true := by
  unfold chkE at h
  split at h <;> first | (rename_i e; cases e; done) | (rename_i e; cases e; exact ⟨_, _, rfl, h⟩) | cases h
theorem inv_int {i : Int} (h : chkE c sc (.int i) x = true) : ∃ j n pos, x = (.Constant (.int j) n pos : Expr) ∧ decide (i = j) = true := by
  unfold chkE at h
  split at h <;> first | (rename_i e; cases e; done) | (rename_i e; cases e; exact ⟨_, _, _, rfl, h⟩) | cases h
theorem inv_bl {i : Bool} (h : chkE c sc (.bl i) x = true) : ∃ j n pos, x = (.Constant (.bool j) n pos : Expr) ∧ decide (i = j) = true := by
  unfold chkE at h
  split at h <;> first | (rename_i e; cases e; done) | (rename_i e; cases e; exact ⟨_, _, _, rfl, h⟩) | cases h
theorem inv_str {i : List Nat} (h : chkE c sc (.str i) x = true) : ∃ j n pos, x = (.Constant (.str j) n pos : Expr) ∧ decide (mkS i = j) = true := by
  unfold chkE at h
  split at h <;> first | (rename_i e; cases e; done) | (rename_i e; cases e; exact ⟨_, _, _, rfl, h⟩) | cases h
theorem inv_non  (h : chkE c sc (.non) x = true) : ∃ n pos, x = (.Constant .none n pos : Expr) ∧ True := by
  unfold chkE at h
  split at h <;> first | (rename_i e; cases e; done) | (rename_i e; cases e; exact ⟨_, _, rfl, trivial⟩) | cases h
theorem inv_gint {y : Str} {i : Int} {x0 : Expr} (h : chkE c sc (.gint y i) x0 = true) : ∃ x pos, x0 = (.Name x pos : Expr) ∧ (decide (y = x) && glB sc x && noDbg x && decide ((y, i) ∈ c.gis)) = true := by
  unfold chkE at h
  split at h <;> first | (rename_i e; cases e; done) | (rename_i e; cases e; exact ⟨_, _, rfl, h⟩) | cases h
theorem inv_gstr {y : Str} {i : List Nat} {x0 : Expr} (h : chkE c sc (.gstr y i) x0 = true) : ∃ x pos, x0 = (.Name x pos : Expr) ∧ (decide (y = x) && glB sc x && noDbg x && decide ((y, i) ∈ c.gss)) = true := by
  unfold chkE at h
  split at h <;> first | (rename_i e; cases e; done) | (rename_i e; cases e; exact ⟨_, _, rfl, h⟩) | cases h
theorem inv_op {o : BOp} {a b : E} (h : chkE c sc (.op o a b) x = true) : ∃ l o' r pos, x = (.BinOp l o' r pos : Expr) ∧ (opB o o' && (okHead l && chkE c sc a l) && (okHead r && chkE c sc b r)) = true := by
  unfold chkE at h
  split at h <;> first | (rename_i e; cases e; done) | (rename_i e; cases e; exact ⟨_, _, _, _, rfl, h⟩) | cases h
theorem inv_neg {a : E} (h : chkE c sc (.neg a) x = true) : ∃ v pos, x = (.UnaryOp .USub v pos : Expr) ∧ (okHead v && chkE c sc a v) = true := by
  unfold chkE at h
  split at h <;> first | (rename_i e; cases e; done) | (rename_i e; cases e; exact ⟨_, _, rfl, h⟩) | cases h
theorem inv_cmp {o : COp} {a b : E} (h : chkE c sc (.cmp o a b) x = true) : ∃ l o' r pos, x = (.Compare l [o'] [r] pos : Expr) ∧ (coB o o' && (okHead l && chkE c sc a l) && (okHead r && chkE c sc b r)) = true := by
  unfold chkE at h
  split at h <;> first | (rename_i e; cases e; done) | (rename_i e; cases e; exact ⟨_, _, _, _, rfl, h⟩) | cases h
theorem inv_chain {o o2 : COp} {a b d : E} (h : chkE c sc (.chain o o2 a b d) x = true) : ∃ l o' o2' m r pos, x = (.Compare l [o', o2'] [m, r] pos : Expr) ∧ (coB o o' && coB o2 o2' && (okHead l && chkE c sc a l) && (okHead m && chkE c sc b m) && (okHead r && chkE c sc d r)) = true := by
  unfold chkE at h
  split at h <;> first | (rename_i e; cases e; done) | (rename_i e; cases e; exact ⟨_, _, _, _, _, _, rfl, h⟩) | cases h
theorem inv_land {es : E} (h : chkE c sc (.land es) x = true) : ∃ vs pos, x = (.BoolOp .And vs pos : Expr) ∧ (chkB c sc es vs && decide (2 ≤ vs.length)) = true := by
  unfold chkE at h
  split at h <;> first | (rename_i e; cases e; done) | (rename_i e; cases e; exact ⟨_, _, rfl, h⟩) | cases h
theorem inv_lor {es : E} (h : chkE c sc (.lor es) x = true) : ∃ vs pos, x = (.BoolOp .Or vs pos : Expr) ∧ (chkB c sc es vs && decide (2 ≤ vs.length)) = true := by
  unfold chkE at h
  split at h <;> first | (rename_i e; cases e; done) | (rename_i e; cases e; exact ⟨_, _, rfl, h⟩) | cases h
theorem inv_lnot {a : E} (h : chkE c sc (.lnot a) x = true) : ∃ v pos, x = (.UnaryOp .Not v pos : Expr) ∧ (okHead v && testOk a v && chkE c sc a v) = true := by
  unfold chkE at h
  split at h <;> first | (rename_i e; cases e; done) | (rename_i e; cases e; exact ⟨_, _, rfl, h⟩) | cases h
theorem inv_ife {t a b : E} (h : chkE c sc (.ife t a b) x = true) : ∃ u y z pos, x = (.IfExp u y z pos : Expr) ∧ ((okHead u && testOk t u && chkE c sc t u) && (okHead y && chkE c sc a y) && (okHead z && chkE c sc b z)) = true := by
  unfold chkE at h
  split at h <;> first | (rename_i e; cases e; done) | (rename_i e; cases e; exact ⟨_, _, _, _, rfl, h⟩) | cases h
theorem inv_tup {es : E} (h : chkE c sc (.tup es) x = true) : ∃ vs k pos, x = (.Tuple vs k pos : Expr) ∧ chkA c sc es vs = true := by
  unfold chkE at h
  split at h <;> first | (rename_i e; cases e; done) | (rename_i e; cases e; exact ⟨_, _, _, rfl, h⟩) | cases h
theorem inv_lst {es : E} (h : chkE c sc (.lst es) x = true) : ∃ vs pos, x = (.List vs pos : Expr) ∧ chkA c sc es vs = true := by
  unfold chkE at h
  split at h <;> first | (rename_i e; cases e; done) | (rename_i e; cases e; exact ⟨_, _, rfl, h⟩) | cases h
theorem inv_dic {es : E} (h : chkE c sc (.dic es) x = true) : ∃ ks vs pos, x = (.Dict ks vs pos : Expr) ∧ (chkD c sc es ks vs && decide (ks.length ≤ 15)) = true := by
  unfold chkE at h
  split at h <;> first | (rename_i e; cases e; done) | (rename_i e; cases e; exact ⟨_, _, _, rfl, h⟩) | cases h
theorem inv_ix {a i : E} (h : chkE c sc (.ix a i) x = true) : ∃ o s pos, x = (.Subscript o s pos : Expr) ∧ ((okHead o && chkE c sc a o) && (okHead s && chkE c sc i s)) = true := by
  unfold chkE at h
  split at h <;> first | (rename_i e; cases e; done) | (rename_i e; cases e; exact ⟨_, _, _, rfl, h⟩) | cases h
theorem inv_sl {a lo hi : E} (h : chkE c sc (.sl a lo hi) x = true) : ∃ o l h p pos, x = (.Subscript o (.Slice l h none p) pos : Expr) ∧ ((okHead o && chkE c sc a o) && (match l with | none => isNil lo | some x => okHead x && chkE c sc lo x) && (match h with | none => isNil hi | some x => okHead x && chkE c sc hi x)) = true := by
  unfold chkE at h
  split at h <;> first | (rename_i e; cases e; done) | (rename_i e; cases e; exact ⟨_, _, _, _, _, rfl, h⟩) | cases h
theorem inv_rev {a : E} (h : chkE c sc (.rev a) x = true) : ∃ o n p1 p2 p3 pos, x = (.Subscript o (.Slice none none (some (.UnaryOp .USub (.Constant (.int 1) n p1) p2)) p3) pos : Expr) ∧ (okHead o && chkE c sc a o) = true := by
  unfold chkE at h
  split at h <;> first | (rename_i e; cases e; done) | (rename_i e; cases e; exact ⟨_, _, _, _, _, _, rfl, h⟩) | cases h
theorem inv_b1 {f : B1} {a : E} (h : chkE c sc (.b1 f a) x = true) : ∃ n p y pos, x = (.Call (.Name n p) [y] [] pos : Expr) ∧ (decide (n = b1Nm f) && bltOk c sc n && (okHead y && chkE c sc a y)) = true := by
  unfold chkE at h
  split at h <;> first | (rename_i e; cases e; done) | (rename_i e; cases e; exact ⟨_, _, _, _, rfl, h⟩) | cases h
theorem inv_b2 {f : B2} {a b : E} (h : chkE c sc (.b2 f a b) x = true) : ∃ n p y z pos, x = (.Call (.Name n p) [y, z] [] pos : Expr) ∧ (decide (n = b2Nm f) && bltOk c sc n && (okHead y && chkE c sc a y) && (okHead z && chkE c sc b z)) = true := by
  unfold chkE at h
  split at h <;> first | (rename_i e; cases e; done) | (rename_i e; cases e; exact ⟨_, _, _, _, _, rfl, h⟩) | cases h
theorem inv_isi {a : E} {t : Ty} (h : chkE c sc (.isi a t) x = true) : ∃ n p y tn p2 pos, x = (.Call (.Name n p) [y, .Name tn p2] [] pos : Expr) ∧ (decide (n = "isinstance") && bltOk c sc n && (okHead y && chkE c sc a y) && decide (tn = tyNmS t) && bltOk c sc tn && bltTy t) = true := by
  unfold chkE at h
  split at h <;> first | (rename_i e; cases e; done) | (rename_i e; cases e; exact ⟨_, _, _, _, _, _, rfl, h⟩) | cases h
theorem inv_mth {m : Mth} {o es : E} (h : chkE c sc (.mth m o es) x = true) : ∃ r n ap args cp, x = (.Call (.Attribute r n ap) args [] cp : Expr) ∧ (decide (n = mthNm m) && (!(call0 r) && decide (m ≠ .lindex)) && (ap.endLine == cp.line) && (okHead r && chkE c sc o r) && chkA c sc es args && decide (args.length < 20)) = true := by
  unfold chkE at h
  split at h <;> first | (rename_i e; cases e; done) | (rename_i e; cases e; exact ⟨_, _, _, _, _, rfl, h⟩) | cases h
theorem inv_call {i : Nat} {es : E} (h : chkE c sc (.call i es) x = true) : ∃ f p args pos, x = (.Call (.Name f p) args [] pos : Expr) ∧ (decide (c.fns[i]? = some f) && glB sc f && noDbg f && !args.isEmpty && chkA c sc es args) = true := by
  unfold chkE at h
  split at h <;> first | (rename_i e; cases e; done) | (rename_i e; cases e; exact ⟨_, _, _, _, rfl, h⟩) | cases h
theorem inv_comp {it : E} {tg : Tg} {vs : List Nat} {cond elt : E} (h : chkE c sc (.comp it tg vs cond elt) x = true) : ∃ e t iter ifs scope pos, x = (.ListComp e [⟨t, iter, ifs, 0⟩] scope pos : Expr) ∧ (chkI c sc it t iter && blkC c.N sc scope (vs.map fun i => (c.N.getD i "", i)) && chkTg c (relS scope sc) (some scope) tg t && (tgSlots tg).all (fun i => vs.contains i) && okHead iter &&
      chkC c (relS scope sc) cond ifs && (okHead e && chkE c (relS scope sc) elt e)) = true := by
  unfold chkE at h
  split at h <;> first | (rename_i e; cases e; done) | (rename_i e; cases e; exact ⟨_, _, _, _, _, _, rfl, h⟩) | cases h
theorem chkD_nil {e : E} {vs : List Expr} (h : chkD c sc e [] vs = true) : e = .nil ∧ vs = [] := by
  unfold chkD at h
  split at h <;> first | exact ⟨rfl, rfl⟩ | (rename_i e; cases e; done) | (rename_i e _; cases e; done) | cases h
theorem chkD_cons {e : E} {k : Option Expr} {ks : List (Option Expr)} {vs : List Expr} (h : chkD c sc e (k :: ks) vs = true) : ∃ a b r x y ws, e = .cons a (.cons b r) ∧ k = some x ∧ vs = y :: ws ∧ (okHead x && chkE c sc a x) = true ∧ (okHead y && chkE c sc b y) = true ∧ chkD c sc r ks ws = true := by
  unfold chkD at h
  split at h
  · rename_i e; cases e
  · rename_i e; cases e
    obtain ⟨h1, h2⟩ := Bool.and_eq_true_iff.mp h
    obtain ⟨h3, h4⟩ := Bool.and_eq_true_iff.mp h1
    exact ⟨_, _, _, _, _, _, rfl, rfl, rfl, h3, h4, h2⟩
  · cases h
theorem chkB_cons {e : E} {y : Expr} {ys : List Expr} (h : chkB c sc e (y :: ys) = true) : ∃ a r, e = .cons a r ∧ (okHead y = true ∧ testOk a y = true ∧ chkE c sc a y = true) ∧ chkB c sc r ys = true := by
  cases e <;> first | (simp only [chkB, Bool.and_eq_true] at h; exact ⟨_, _, rfl, ⟨h.1.1.1, h.1.1.2, h.1.2⟩, h.2⟩) | (unfold chkB at h; cases h)
theorem chkB_nil {e : E} (h : chkB c sc e [] = true) : e = .nil := by
  cases e <;> first | rfl | (unfold chkB at h; cases h)
theorem chkA_cons {e : E} {y : Expr} {ys : List Expr} (h : chkA c sc e (y :: ys) = true) : ∃ a r, e = .cons a r ∧ (okHead y = true ∧ chkE c sc a y = true) ∧ chkA c sc r ys = true := by
  cases e <;> first | (simp only [chkA, Bool.and_eq_true] at h; exact ⟨_, _, rfl, h.1, h.2⟩) | (unfold chkA at h; cases h)
theorem chkC_nil {e : E} (h : chkC c sc e [] = true) : e = .nil := by
  unfold chkC at h
  split at h <;> first | rfl | (rename_i e2 _; cases e2; done) | (rename_i e2; cases e2; done) | cases h
theorem chkC_cons {e : E} {y : Expr} {ys : List Expr} (h : chkC c sc e (y :: ys) = true) : ∃ a, e = .cons a .nil ∧ ys = [] ∧ okHead y = true ∧ testOk a y = true ∧ chkE c sc a y = true := by
  unfold chkC at h
  split at h
  · rename_i e2; cases e2
  · rename_i e2; cases e2; simp only [Bool.and_eq_true] at h; exact ⟨_, rfl, rfl, h.1.1, h.1.2, h.2⟩
  · cases h
theorem invA_nil {es : E} (h : chkA c sc es [] = true) : es = .nil := chkA_nil h
end
end Lit
namespace Lit
open PySem PySem.Spec PyProof.Rows L2
def flatP : List (V × V) → List V
  | [] => []
  | p :: r => p.1 :: p.2 :: flatP r
theorem flatP_inj : ∀ {ps qs : List (V × V)}, flatP ps = flatP qs → ps = qs
  | [], [], _ => rfl
  | [], _ :: _, e => by simp [flatP] at e
  | _ :: _, [], e => by simp [flatP] at e
  | (a, b) :: ps, (c, d) :: qs, e => by
    simp only [flatP, List.cons.injEq] at e
    rw [flatP_inj e.2.2, e.1, e.2.1]
section
variable {K : PySem.W.Frag} {H : Hp}
theorem kvPairs_ok : ∀ {ds : List D} {kvs : List (D × D)} {vs : List V}, kvPairs ds = some kvs → RelDs K H ds vs → ∃ qs : List (Key × V), vs = flatP (qs.map fun kv => (kV kv.1, kv.2)) ∧ RelK K H kvs qs
  | [], kvs, vs, e, r => by
    simp only [kvPairs] at e
    cases e
    simp only [RelDs] at r
    exact ⟨[], r, rfl⟩
  | .int i :: v :: ds, kvs, vs, e, r => by
    simp only [kvPairs] at e
    cases e1 : kvPairs ds with
    | none => rw [e1] at e; cases e
    | some ks =>
      rw [e1] at e
      cases e
      simp only [RelDs] at r
      obtain ⟨k, r1, rfl, rk, w, r2, rfl, rv, rr⟩ := r
      obtain ⟨qs, e2, r3⟩ := kvPairs_ok e1 rr
      cases relInt rk
      refine ⟨(.inl i, w) :: qs, by rw [e2]; rfl, ⟨.inl i, w, qs, rfl, rfl, rv, r3⟩⟩
  | .str i :: v :: ds, kvs, vs, e, r => by
    simp only [kvPairs] at e
    cases e1 : kvPairs ds with
    | none => rw [e1] at e; cases e
    | some ks =>
      rw [e1] at e
      cases e
      simp only [RelDs] at r
      obtain ⟨k, r1, rfl, rk, w, r2, rfl, rv, rr⟩ := r
      obtain ⟨qs, e2, r3⟩ := kvPairs_ok e1 rr
      cases relStr rk
      refine ⟨(.inr (mkS i), w) :: qs, by rw [e2]; rfl, ⟨.inr (mkS i), w, qs, rfl, rfl, rv, r3⟩⟩
  | [.int _], _, _, e, _ => by simp only [kvPairs] at e; cases e
  | [.str _], _, _, e, _ => by simp only [kvPairs] at e; cases e
  | .non :: _, _, _, e, _ => by simp only [kvPairs] at e; cases e
  | .bl _ :: _, _, _, e, _ => by simp only [kvPairs] at e; cases e
  | .ref _ :: _, _, _, e, _ => by simp only [kvPairs] at e; cases e
  | .tup _ :: _, _, _, e, _ => by simp only [kvPairs] at e; cases e
  | .rol _ :: _, _, _, e, _ => by simp only [kvPairs] at e; cases e
theorem merge_ok : ∀ {kvs : List (D × D)} {qs : List (Key × V)} {acc : List (D × D)} {as : List (Key × V)}, RelK K H kvs qs → RelK K H acc as → RelK K H (mergeD acc kvs) (mergeK as qs)
  | [], qs, acc, as, r, ra => by
    cases (show qs = [] from r)
    exact ra
  | (k, d) :: kvs, qs, acc, as, r, ra => by
    obtain ⟨kk, v, qs', rfl, ek, rv, rr⟩ := (show ∃ kk v r, qs = (kk, v) :: r ∧ keyD k = some kk ∧ RelD K H d v ∧ RelK K H kvs r from r)
    show RelK K H (mergeD (setKV k d acc) kvs) (mergeK (putK as kk v) qs')
    exact merge_ok rr (relK_gen.mpr (setKV_gen kd2 ek rv (relK_gen.mp ra)))
theorem relK_len : ∀ {kvs : List (D × D)} {qs : List (Key × V)}, RelK K H kvs qs → qs.length = kvs.length := fun r => (relK_gen.mp r).len
end
section
variable {X : Cx} {W : WX}
def rDic (ra : RA) : RE := fun ρ h xq Q => ra ρ h xq fun ds h1 => match kvPairs ds with
  | some kvs => kvs.length ≤ 15 ∧ alloc (.dct (mergeD [] kvs)) h1 Q
  | none => False
theorem s_dicN {pos : Pos} : PE X (.Dict [] [] pos) (liftE X.K W (rDic fun _ h _ Q => Q [] h)) := by
  refine pe_dnewK.lift fun σ H Q ⟨ρ, h, xq, Qd, rs, rh, q, out, ox⟩ p hp => ?_
  have hn := rh.free hp
  have al := q.2 p (updP h p (.dct [])) hn updP_same (ext_upd hn)
  have nt : NoT H p := .free hp
  exact out _ _ (.ref p) _ al (by simp only [RelD]) (rh.put nt (.inl ⟨[], upd_same, rfl⟩)) (.put (.inr hp))
theorem s_dic {pos : Pos} {ks : List (Option Expr)} {vs : List Expr} {trs : List (TE × TE)} {ra : RA} (h : PPs X pos ks vs trs) (hall : ks.all (·.isSome) = true) (hl : ks.length = vs.length) (h0 : ks ≠ []) (h15 : ks.length ≤ 15)
    (hp : ∀ σ H Q, liftA X.K W ra σ H (fun xs H' => ∃ ps, xs = flatP ps ∧ Q ps H') → tPairs trs σ H Q) : PE X (.Dict ks vs pos) (liftE X.K W (rDic ra)) := by
  refine (pe_disp h hall hl h0 h15).lift fun σ H Q ⟨ρ, h, xq, Qd, rs, rh, q, out, ox⟩ p hp' => hp _ _ _ ?_
  have hn := rh.free hp'
  have fr : Frm H h (upd H p (.dK [])) h := .laid hp'
  have rh1 : RelH X.K (upd H p (.dK [])) h := rh.laid hp' hn
  refine liftA.bind (rs.keep (fr.keeps rh)) rh1 q (ox.step fr) fun ds h1 xs H1 q1 r1 rh2 f1 _ _ _ => ?_
  cases e1 : kvPairs ds with
  | none => rw [e1] at q1; exact q1.elim
  | some kvs =>
    rw [e1] at q1
    obtain ⟨qs, ex, rk⟩ := kvPairs_ok e1 r1
    obtain ⟨hD, hDn⟩ := f1 p _ upd_same hn
    have nt : NoT H1 p := .of hD (fun _ c => nomatch c) (fun _ _ c => nomatch c) fun _ c => nomatch c
    refine ⟨_, ex, hD, qs, rfl, by rw [relK_len rk]; exact q1.1, ?_⟩
    have al := q1.2 p (updP h1 p (.dct (mergeD [] kvs))) hDn updP_same (ext_upd hDn)
    have rm : RelK X.K H1 (mergeD [] kvs) (mergeK [] qs) := merge_ok rk rfl
    refine out _ _ (.ref p) _ al (by simp only [RelD]) (rh2.put nt (.inl ⟨_, upd_same, rm.keep (Stay.upd.keeps nt)⟩)) ?_
    intro b w e nn
    have hb : b ≠ p := fun z => by rw [z, hp'] at e; cases e
    rw [upd_ne hb, updP_ne hb]
    exact f1 b w (by rw [upd_ne hb]; exact e) nn
theorem pairs_step {ra rb : RE} {rr : RA} {trs : List (TE × TE)} (hp : ∀ σ H Q, liftA X.K W rr σ H (fun xs H' => ∃ ps, xs = flatP ps ∧ Q ps H') → tPairs trs σ H Q) :
    ∀ σ H Q, liftA X.K W (fun ρ h xq Q => ra ρ h xq fun x h1 => rb ρ h1 xq fun y h2 => rr ρ h2 xq fun ds h3 => Q (x :: y :: ds) h3) σ H (fun xs H' => ∃ ps, xs = flatP ps ∧ Q ps H') → tPairs ((liftE X.K W ra, liftE X.K W rb) :: trs) σ H Q := by
  intro σ H Q ⟨ρ, h, xq, Qd, rs, rh, q, out, ox⟩
  refine liftE.bind rs rh q ox fun x h1 v1 H1 q1 r1 rh1 f1 k1 rs1 ox1 => ?_
  refine liftE.bind rs1 rh1 q1 ox1 fun y h2 v2 H2 q2 r2 rh2 f2 k2 rs2 ox2 => ?_
  refine hp _ _ _ (liftA.bind rs2 rh2 q2 ox2 fun ds h3 vs H3 q3 r3 rh3 f3 k3 _ _ => ?_)
  obtain ⟨ps, e, z⟩ := out _ h3 (v1 :: v2 :: vs) H3 q3 (.cons ((r1.keep k2).keep k3) (.cons (r2.keep k3) r3)) rh3 ((f1.trans f2).trans f3)
  cases ps with
  | nil => simp [flatP] at e
  | cons p ps =>
    simp only [flatP, List.cons.injEq] at e
    obtain ⟨e1, e2, e3⟩ := e
    refine ⟨ps, e3, ?_⟩
    rw [e1, e2]
    exact z
theorem pairs_nil : ∀ σ H Q, liftA X.K W (fun _ h _ Q => Q [] h) σ H (fun xs H' => ∃ ps, xs = flatP ps ∧ Q ps H') → tPairs [] σ H Q := by
  intro σ H Q ⟨ρ, h, xq, Qd, rs, rh, q, out, ox⟩
  obtain ⟨ps, e, z⟩ := out [] h [] H q .nil rh Frm.refl
  cases ps with
  | nil => exact z
  | cons p ps => simp [flatP] at e
end
end Lit
namespace Lit
open PySem PySem.Spec PyProof.Rows L2
theorem deq {α : Prop} [Decidable α] (h : decide α = true) : α := of_decide_eq_true h
theorem gint_ok {X : Cx} {W : WX} {k : Nat} {G : Sig} (c : Ctx X W k G) {y : Str} {i : Int} {pos : Pos} (h : (glB X.env.scope y && noDbg y && decide ((y, i) ∈ (G.ck X.N).gis)) = true) : PE X (.Name y pos) (liftE X.K W fun _ h _ Q => Q (.int i) h) := by
  obtain ⟨h1, h2⟩ := an h
  obtain ⟨h3, h4⟩ := an h1
  obtain ⟨t, e⟩ := c.gis y i (deq h2)
  exact s_val (pe_glob (v := .int i) (gl_ok h3) e ⟨t, rfl⟩ (noDbg_ok h4).1) fun H => by simp only [RelD]
theorem gstr_ok {X : Cx} {W : WX} {k : Nat} {G : Sig} (c : Ctx X W k G) {y : Str} {i : List Nat} {pos : Pos} (h : (glB X.env.scope y && noDbg y && decide ((y, i) ∈ (G.ck X.N).gss)) = true) : PE X (.Name y pos) (liftE X.K W fun _ h _ Q => Q (.str i) h) := by
  obtain ⟨h1, h2⟩ := an h
  obtain ⟨h3, h4⟩ := an h1
  obtain ⟨t, e⟩ := c.gss y i (deq h2)
  exact s_val (pe_glob (v := .str (mkS i)) (gl_ok h3) e ⟨t, rfl⟩ (noDbg_ok h4).1) fun H => by simp only [RelD]
theorem plain_of {e : E} {x : Expr} (h : testOk e x = true) (h1 : ∀ es, e ≠ .land es) (h2 : ∀ es, e ≠ .lor es) (h3 : ∀ a, e ≠ .lnot a) (h4 : ∀ o a b, e ≠ .cmp o a b) (h5 : ∀ o p a b d, e ≠ .chain o p a b d) : plainT x = true := by
  cases e <;> first | exact h | exact absurd rfl (h1 _) | exact absurd rfl (h2 _) | exact absurd rfl (h3 _) | exact absurd rfl (h4 _ _ _) | exact absurd rfl (h5 _ _ _ _ _)
theorem plain_ife {t a b : E} {c : Ck} {sc : Scope} {x : Expr} (h : testOk (.ife t a b) x = true) (h2 : chkE c sc (.ife t a b) x = true) : False := by
  obtain ⟨u, y, z, pos, rfl, _⟩ := inv_ife h2
  cases h
section
variable {k : Nat} {G : Sig}
theorem invI_R1 {c : Ck} {sc : Scope} {tg x : Expr} {e : E} (h : chkI c sc (.itR1 e) tg x = true) : ∃ n p y pos, x = .Call (.Name n p) [y] [] pos ∧ (decide (n = "range") && bltOk c sc n && (okHead y && chkE c sc e y)) = true := by
  unfold chkI at h
  split at h <;> first | (rename_i e; cases e; done) | (rename_i e; cases e; exact ⟨_, _, _, _, rfl, h⟩) | cases h
theorem invI_R2 {c : Ck} {sc : Scope} {tg x : Expr} {a b : E} (h : chkI c sc (.itR2 a b) tg x = true) : ∃ n p y z pos, x = .Call (.Name n p) [y, z] [] pos ∧ (decide (n = "range") && bltOk c sc n && (okHead y && chkE c sc a y) && (okHead z && chkE c sc b z)) = true := by
  unfold chkI at h
  split at h <;> first | (rename_i e; cases e; done) | (rename_i e; cases e; exact ⟨_, _, _, _, _, rfl, h⟩) | cases h
theorem invI_EL {c : Ck} {sc : Scope} {tg x : Expr} {e : E} (h : chkI c sc (.itEL e) tg x = true) : ∃ es kk tpos n p y pos, tg = .Tuple es kk tpos ∧ x = .Call (.Name n p) [y] [] pos ∧ (decide (n = "enumerate") && bltOk c sc n && (okHead y && chkE c sc e y)) = true := by
  unfold chkI at h
  split at h <;> first | (rename_i e; cases e; done) | (rename_i e; cases e; exact ⟨_, _, _, _, _, _, _, rfl, rfl, h⟩) | cases h
theorem s_ptsnil {X : Cx} {W : WX} : PTs X [] (liftT X.K W fun _ h _ Q => Q true h) := ⟨fun pins s σ H Q I ⟨ρ, h, xq, Qd, rs, rh, q, out, ox⟩ => pts_nil.run pins s σ H Q I (out true h H q rh Frm.refl)⟩
mutual
theorem snd_E : ∀ (e : E) {X : Cx} {W : WX} {x : Expr}, Ctx X W k G → chkE (G.ck X.N) X.env.scope e x = true → PE X x (liftE X.K W (rdE G.sps e))
  | .var i, X, W, x, c, h => by
    rw [rdE]
    obtain ⟨y, pos, hx, g⟩ := inv_var h
    subst hx
    have h := g
    obtain ⟨h1, h2⟩ := an h
    obtain ⟨h3, h4⟩ := an h1
    obtain ⟨d1, d2, _⟩ := noDbg_ok h2
    exact s_var (deq h3) (vis_ok h4) d1 d2
  | .int i, X, W, x, c, h => by
    rw [rdE]
    obtain ⟨j, n, pos, hx, g⟩ := inv_int h
    subst hx
    have h := g
    cases deq h
    exact s_val pe_int fun H => by simp only [RelD]
  | .bl i, X, W, x, c, h => by
    rw [rdE]
    obtain ⟨j, n, pos, hx, g⟩ := inv_bl h
    subst hx
    have h := g
    cases deq h
    exact s_val pe_bl fun H => by simp only [RelD]
  | .str i, X, W, x, c, h => by
    rw [rdE]
    obtain ⟨j, n, pos, hx, g⟩ := inv_str h
    subst hx
    have h := g
    cases deq h
    exact s_val pe_str fun H => by simp only [RelD]
  | .non, X, W, x, c, h => by
    rw [rdE]
    obtain ⟨n, pos, hx, g⟩ := inv_non h
    subst hx
    have h := g
    exact s_val pe_non fun H => by simp only [RelD]
  | .gint y i, X, W, x, c, h => by
    rw [rdE]
    obtain ⟨z, pos, hx, g⟩ := inv_gint h
    subst hx
    have h := g
    have h' := h

    simp only [Bool.and_eq_true_iff] at h'
    cases deq h'.1.1.1
    exact gint_ok c (by simp only [Bool.and_eq_true_iff]; exact ⟨⟨h'.1.1.2, h'.1.2⟩, h'.2⟩)
  | .gstr y i, X, W, x, c, h => by
    rw [rdE]
    obtain ⟨z, pos, hx, g⟩ := inv_gstr h
    subst hx
    have h := g
    have h' := h
    simp only [Bool.and_eq_true_iff] at h'
    cases deq h'.1.1.1
    exact gstr_ok c (by simp only [Bool.and_eq_true_iff]; exact ⟨⟨h'.1.1.2, h'.1.2⟩, h'.2⟩)
  | .op o a b, X, W, x, c, h => by
    rw [rdE]
    obtain ⟨l, o', r, pos, hx, g⟩ := inv_op h
    subst hx
    have h := g
    simp only [Bool.and_eq_true_iff] at h
    cases op_ok h.1.1
    exact s_op (snd_E a c h.1.2.2) (snd_E b c h.2.2)
  | .neg a, X, W, x, c, h => by
    rw [rdE]
    obtain ⟨v, pos, hx, g⟩ := inv_neg h
    subst hx
    have h := g
    exact s_neg (snd_E a c (an h).2)
  | .cmp o a b, X, W, x, c, h => by
    rw [rdE]
    obtain ⟨l, o', r, pos, hx, g⟩ := inv_cmp h
    subst hx
    have h := g
    simp only [Bool.and_eq_true_iff] at h
    cases co_ok h.1.1
    exact s_cmp c (snd_E a c h.1.2.2) (snd_E b c h.2.2) h.2.1
  | .chain o o2 a b d, X, W, x, c, h => by
    rw [rdE]
    obtain ⟨l, o', o2', m, r, pos, hx, g⟩ := inv_chain h
    subst hx
    have h := g
    simp only [Bool.and_eq_true_iff] at h
    cases co_ok h.1.1.1.1
    cases co_ok h.1.1.1.2
    exact s_chain c (snd_E a c h.1.1.2.2) (snd_E b c h.1.2.2) (snd_E d c h.2.2) h.2.1
  | .land es, X, W, x, c, h => by
    rw [rdE]
    obtain ⟨vs, pos, hx, g⟩ := inv_land h
    subst hx
    have h := g
    exact snd_And es c (an h).1 (fun e => by rw [e] at h; exact absurd (deq (an h).2) (by decide))
  | .lor es, X, W, x, c, h => by
    rw [rdE]
    obtain ⟨vs, pos, hx, g⟩ := inv_lor h
    subst hx
    have h := g
    exact snd_Or es c (an h).1 (fun e => by rw [e] at h; exact absurd (deq (an h).2) (by decide))
  | .lnot a, X, W, x, c, h => by
    rw [rdE]
    obtain ⟨v, pos, hx, g⟩ := inv_lnot h
    subst hx
    have h := g
    exact s_not (snd_E a c (an h).2)
  | .ife t a b, X, W, x, c, h => by
    rw [rdE]
    obtain ⟨u, y, z, pos, hx, g⟩ := inv_ife h
    subst hx
    have h := g
    simp only [Bool.and_eq_true_iff] at h
    exact s_ife (snd_T t c h.1.1.2 h.1.1.1.2) (snd_E a c h.1.2.2) (snd_E b c h.2.2)
  | .tup es, X, W, x, c, h => by
    rw [rdE]
    obtain ⟨vs, n, pos, hx, g⟩ := inv_tup h
    subst hx
    have h := g
    exact s_tup (snd_A es c h)
  | .lst es, X, W, x, c, h => by
    rw [rdE]
    obtain ⟨vs, pos, hx, g⟩ := inv_lst h
    subst hx
    have h := g
    exact s_lst (snd_A es c h)
  | .dic es, X, W, x, c, h => by
    rw [rdE]
    obtain ⟨ks, vs, pos, hx, g⟩ := inv_dic h
    subst hx
    obtain ⟨g1, g2⟩ := an g
    obtain ⟨trs, p1, p2, p3, p4⟩ := snd_D es c (W := W) (pos := pos) g1
    cases ks with
    | nil =>
      obtain ⟨e1, e2⟩ := chkD_nil g1
      subst e1 e2
      rw [rdA]
      exact s_dicN
    | cons k ks => exact s_dic p1 p2 p3 (by simp) (deq g2) p4
  | .ix a i, X, W, x, c, h => by
    rw [rdE]
    obtain ⟨o, s, pos, hx, g⟩ := inv_ix h
    subst hx
    have h := g
    simp only [Bool.and_eq_true_iff] at h
    exact s_ix c (snd_E a c h.1.2) (snd_E i c h.2.2) h.2.1
  | .sl a lo hi, X, W, x, c, h => by
    rw [rdE]
    obtain ⟨o, l, u, p, pos, hx, g⟩ := inv_sl h
    subst hx
    have h := g
    obtain ⟨h1, h2⟩ := an h
    obtain ⟨h3, h4⟩ := an h1
    exact s_sl (snd_E a c (an h3).2) (snd_O lo c h4) (snd_O hi c h2)
  | .rev a, X, W, x, c, h => by
    rw [rdE]
    obtain ⟨o, n, p1, p2, p3, pos, hx, g⟩ := inv_rev h
    subst hx
    have h := g
    exact s_rev (snd_E a c (an h).2)
  | .b1 f a, X, W, x, c, h => by
    rw [rdE]
    obtain ⟨n, p, y, pos, hx, g⟩ := inv_b1 h
    subst hx
    have h := g
    simp only [Bool.and_eq_true_iff] at h
    cases deq h.1.1
    exact s_b1any c f h.1.2 (snd_E a c h.2.2) h.2.1
  | .b2 f a b, X, W, x, c, h => by
    rw [rdE]
    obtain ⟨n, p, y, z, pos, hx, g⟩ := inv_b2 h
    subst hx
    have h := g
    simp only [Bool.and_eq_true_iff] at h
    cases deq h.1.1.1
    exact s_b2any c f h.1.1.2 (snd_E a c h.1.2.2) (snd_E b c h.2.2) h.1.2.1 h.2.1
  | .isi a t, X, W, x, c, h => by
    rw [rdE]
    obtain ⟨n, p, y, tn, p2, pos, hx, g⟩ := inv_isi h
    subst hx
    have h := g
    simp only [Bool.and_eq_true_iff] at h
    cases deq h.1.1.1.1.1
    cases deq h.1.1.2
    exact s_isi c t h.2 h.1.1.1.1.2 h.1.2 (snd_E a c h.1.1.1.2.2) h.1.1.1.2.1
  | .mth m o es, X, W, x, c, h => by
    rw [rdE]
    obtain ⟨r, n, ap, args, cp, hx, g⟩ := inv_mth h
    subst hx
    have h := g
    simp only [Bool.and_eq_true_iff] at h
    cases deq h.1.1.1.1.1
    have hz := h.1.1.1.1.2
    have hb : call0 r = false := bang hz.1
    have hm : m ≠ .lindex := deq hz.2
    have pr := snd_E o c h.1.1.2.2
    cases args with
    | nil =>
      cases chkA_nil h.1.2
      simp only [rdA]
      exact s_mth0 c m hm pr hb h.1.1.1.2
    | cons e es' => exact s_mth c m hm pr hb h.1.1.1.2 h.1.2 (deq h.2) (snd_A es c h.1.2)
  | .call i es, X, W, x, c, h => by
    rw [rdE]
    obtain ⟨f, p, args, pos, hx, g⟩ := inv_call h
    subst hx
    have h := g
    simp only [Bool.and_eq_true_iff] at h
    cases args with
    | nil => exact absurd h.1.2 (by decide)
    | cons e es' =>
      obtain ⟨a, r, rfl⟩ := chkA_ncons h.2
      exact pe_def c (deq h.1.1.1.1) (gl_ok h.1.1.1.2) (snd_A (.cons a r) c h.2) (noDbg_ok h.1.1.2).1 (star_ok (chkA_head h.2).1 _ _) (chkA_star (chkA_head h.2).2.2 _ _)
  | .comp it tg vs cond elt, X, W, x, c, h => by
    rw [rdE]
    obtain ⟨e, t, iter, ifs, scope, pos, hx, g⟩ := inv_comp h
    subst hx
    have h := g
    simp only [Bool.and_eq_true_iff] at h
    exact s_comp c (snd_I it c h.1.1.1.1.1.1) h.1.1.1.1.1.2 h.1.1.1.1.2 h.1.1.1.2 h.1.1.2 (fun s H C cl fp => snd_C cond (c.blk s H scope (compEnvC scope cl C X.env) fp) h.1.2) (fun s H C cl fp => snd_E elt (c.blk s H scope (compEnvC scope cl C X.env) fp) h.2.2)
  | .meth _ _ _, X, W, x, c, h => by unfold chkE at h; first | cases h | (split at h <;> first | (rename_i e; cases e; done) | cases h)
  | .make _ _, X, W, x, c, h => by unfold chkE at h; first | cases h | (split at h <;> first | (rename_i e; cases e; done) | cases h)
  | .fld _ _ _, X, W, x, c, h => by unfold chkE at h; first | cases h | (split at h <;> first | (rename_i e; cases e; done) | cases h)
  | .itL _, X, W, x, c, h => by unfold chkE at h; first | cases h | (split at h <;> first | (rename_i e; cases e; done) | cases h)
  | .itT _, X, W, x, c, h => by unfold chkE at h; first | cases h | (split at h <;> first | (rename_i e; cases e; done) | cases h)
  | .itS _, X, W, x, c, h => by unfold chkE at h; first | cases h | (split at h <;> first | (rename_i e; cases e; done) | cases h)
  | .itR1 _, X, W, x, c, h => by unfold chkE at h; first | cases h | (split at h <;> first | (rename_i e; cases e; done) | cases h)
  | .itR2 _ _, X, W, x, c, h => by unfold chkE at h; first | cases h | (split at h <;> first | (rename_i e; cases e; done) | cases h)
  | .itEL _, X, W, x, c, h => by unfold chkE at h; first | cases h | (split at h <;> first | (rename_i e; cases e; done) | cases h)
  | .itET _, X, W, x, c, h => by unfold chkE at h; first | cases h | (split at h <;> first | (rename_i e; cases e; done) | cases h)
  | .itES _, X, W, x, c, h => by unfold chkE at h; first | cases h | (split at h <;> first | (rename_i e; cases e; done) | cases h)
  | .nil, X, W, x, c, h => by unfold chkE at h; first | cases h | (split at h <;> first | (rename_i e; cases e; done) | cases h)
  | .cons _ _, X, W, x, c, h => by unfold chkE at h; first | cases h | (split at h <;> first | (rename_i e; cases e; done) | cases h)
termination_by e => (sizeOf e, 1)
theorem snd_T : ∀ (e : E) {X : Cx} {W : WX} {x : Expr}, Ctx X W k G → chkE (G.ck X.N) X.env.scope e x = true → testOk e x = true → PT X x (liftT X.K W (rdT_ G.sps e))
  | .land es, X, W, x, c, h, t => by
    rw [rdT_]
    obtain ⟨vs, pos, hx, g⟩ := inv_land h
    subst hx
    have h := g
    exact (snd_AndT es c (an h).1 (fun e => by rw [e] at h; exact absurd (deq (an h).2) (by decide))).pt
  | .lor es, X, W, x, c, h, t => by
    rw [rdT_]
    obtain ⟨vs, pos, hx, g⟩ := inv_lor h
    subst hx
    have h := g
    exact (snd_OrT es c (an h).1 (fun e => by rw [e] at h; exact absurd (deq (an h).2) (by decide))).pt
  | .lnot a, X, W, x, c, h, t => by
    rw [rdT_]
    obtain ⟨v, pos, hx, g⟩ := inv_lnot h
    subst hx
    have h := g
    exact s_notT (snd_T a c (an h).2 (an (an h).1).2)
  | .cmp o a b, X, W, x, c, h, t => by
    rw [rdT_]
    obtain ⟨l, o', r, pos, hx, g⟩ := inv_cmp h
    subst hx
    have h := g
    simp only [Bool.and_eq_true_iff] at h
    cases co_ok h.1.1
    exact s_cmpT c (snd_E a c h.1.2.2) (snd_E b c h.2.2) h.2.1
  | .chain o o2 a b d, X, W, x, c, h, t => by
    rw [rdT_]
    obtain ⟨l, o', o2', m, r, pos, hx, g⟩ := inv_chain h
    subst hx
    have h := g
    simp only [Bool.and_eq_true_iff] at h
    cases co_ok h.1.1.1.1
    cases co_ok h.1.1.1.2
    exact s_chainT c (snd_E a c h.1.1.2.2) (snd_E b c h.1.2.2) (snd_E d c h.2.2) h.2.1
  | .ife t' a b, X, W, x, c, h, t => (plain_ife t h).elim
  | .var i, X, W, x, c, h, t => by
    simp only [rdT_]
    exact s_truth (snd_E (.var i) c h) t
  | .int i, X, W, x, c, h, t => by
    simp only [rdT_]
    exact s_truth (snd_E (.int i) c h) t
  | .bl i, X, W, x, c, h, t => by
    simp only [rdT_]
    exact s_truth (snd_E (.bl i) c h) t
  | .str i, X, W, x, c, h, t => by
    simp only [rdT_]
    exact s_truth (snd_E (.str i) c h) t
  | .non, X, W, x, c, h, t => by
    simp only [rdT_]
    exact s_truth (snd_E .non c h) t
  | .gint y i, X, W, x, c, h, t => by
    simp only [rdT_]
    exact s_truth (snd_E (.gint y i) c h) t
  | .gstr y i, X, W, x, c, h, t => by
    simp only [rdT_]
    exact s_truth (snd_E (.gstr y i) c h) t
  | .op o a b, X, W, x, c, h, t => by
    simp only [rdT_]
    exact s_truth (snd_E (.op o a b) c h) t
  | .neg a, X, W, x, c, h, t => by
    simp only [rdT_]
    exact s_truth (snd_E (.neg a) c h) t
  | .tup a, X, W, x, c, h, t => by
    simp only [rdT_]
    exact s_truth (snd_E (.tup a) c h) t
  | .lst a, X, W, x, c, h, t => by
    simp only [rdT_]
    exact s_truth (snd_E (.lst a) c h) t
  | .dic a, X, W, x, c, h, t => by
    simp only [rdT_]
    exact s_truth (snd_E (.dic a) c h) t
  | .ix a b, X, W, x, c, h, t => by
    simp only [rdT_]
    exact s_truth (snd_E (.ix a b) c h) t
  | .sl a b d, X, W, x, c, h, t => by
    simp only [rdT_]
    exact s_truth (snd_E (.sl a b d) c h) t
  | .rev a, X, W, x, c, h, t => by
    simp only [rdT_]
    exact s_truth (snd_E (.rev a) c h) t
  | .b1 f a, X, W, x, c, h, t => by
    simp only [rdT_]
    exact s_truth (snd_E (.b1 f a) c h) t
  | .b2 f a b, X, W, x, c, h, t => by
    simp only [rdT_]
    exact s_truth (snd_E (.b2 f a b) c h) t
  | .isi a b, X, W, x, c, h, t => by
    simp only [rdT_]
    exact s_truth (snd_E (.isi a b) c h) t
  | .mth f a b, X, W, x, c, h, t => by
    simp only [rdT_]
    exact s_truth (snd_E (.mth f a b) c h) t
  | .call a b, X, W, x, c, h, t => by
    simp only [rdT_]
    exact s_truth (snd_E (.call a b) c h) t
  | .meth f a b, X, W, x, c, h, t => by
    simp only [rdT_]
    exact s_truth (snd_E (.meth f a b) c h) t
  | .make a b, X, W, x, c, h, t => by
    simp only [rdT_]
    exact s_truth (snd_E (.make a b) c h) t
  | .fld f a b, X, W, x, c, h, t => by
    simp only [rdT_]
    exact s_truth (snd_E (.fld f a b) c h) t
  | .comp f a b d e, X, W, x, c, h, t => by
    simp only [rdT_]
    exact s_truth (snd_E (.comp f a b d e) c h) t
  | .itL a, X, W, x, c, h, t => by
    simp only [rdT_]
    exact s_truth (snd_E (.itL a) c h) t
  | .itT a, X, W, x, c, h, t => by
    simp only [rdT_]
    exact s_truth (snd_E (.itT a) c h) t
  | .itS a, X, W, x, c, h, t => by
    simp only [rdT_]
    exact s_truth (snd_E (.itS a) c h) t
  | .itR1 a, X, W, x, c, h, t => by
    simp only [rdT_]
    exact s_truth (snd_E (.itR1 a) c h) t
  | .itR2 a b, X, W, x, c, h, t => by
    simp only [rdT_]
    exact s_truth (snd_E (.itR2 a b) c h) t
  | .itEL a, X, W, x, c, h, t => by
    simp only [rdT_]
    exact s_truth (snd_E (.itEL a) c h) t
  | .itET a, X, W, x, c, h, t => by
    simp only [rdT_]
    exact s_truth (snd_E (.itET a) c h) t
  | .itES a, X, W, x, c, h, t => by
    simp only [rdT_]
    exact s_truth (snd_E (.itES a) c h) t
  | .nil, X, W, x, c, h, t => by
    simp only [rdT_]
    exact s_truth (snd_E .nil c h) t
  | .cons a b, X, W, x, c, h, t => by
    simp only [rdT_]
    exact s_truth (snd_E (.cons a b) c h) t
termination_by e => (sizeOf e, 2)
theorem snd_And (e : E) {X : Cx} {W : WX} {xs : List Expr} {pos : Pos} (c : Ctx X W k G) (h : chkB (G.ck X.N) X.env.scope e xs = true) (n : xs ≠ []) : PE X (.BoolOp .And xs pos) (liftE X.K W (rdAnd G.sps e)) := by
  cases xs with
  | nil => exact absurd rfl n
  | cons x xs =>
    obtain ⟨a, r, he, h1, h2⟩ := chkB_cons h
    have l1 : sizeOf a < sizeOf e := by rw [he]; simp only [E.cons.sizeOf_spec]; omega
    have l2 : sizeOf r < sizeOf e := by rw [he]; simp only [E.cons.sizeOf_spec]; omega
    have pa := snd_E a c (W := W) h1.2.2
    cases xs with
    | nil =>
      have e2 := chkB_nil h2
      subst e2 he
      rw [rdAnd]
      exact pe_one pa
    | cons y ys =>
      have pr := snd_And r c (W := W) (pos := pos) h2 (by simp)
      obtain ⟨b, r', hr, _⟩ := chkB_cons h2
      subst hr he
      simp only [rdAnd] at pr ⊢
      exact s_andV pa pr
termination_by (sizeOf e, 1)
theorem snd_Or (e : E) {X : Cx} {W : WX} {xs : List Expr} {pos : Pos} (c : Ctx X W k G) (h : chkB (G.ck X.N) X.env.scope e xs = true) (n : xs ≠ []) : PE X (.BoolOp .Or xs pos) (liftE X.K W (rdOr G.sps e)) := by
  cases xs with
  | nil => exact absurd rfl n
  | cons x xs =>
    obtain ⟨a, r, he, h1, h2⟩ := chkB_cons h
    have l1 : sizeOf a < sizeOf e := by rw [he]; simp only [E.cons.sizeOf_spec]; omega
    have l2 : sizeOf r < sizeOf e := by rw [he]; simp only [E.cons.sizeOf_spec]; omega
    have pa := snd_E a c (W := W) h1.2.2
    cases xs with
    | nil =>
      have e2 := chkB_nil h2
      subst e2 he
      rw [rdOr]
      exact pe_one pa
    | cons y ys =>
      have pr := snd_Or r c (W := W) (pos := pos) h2 (by simp)
      obtain ⟨b, r', hr, _⟩ := chkB_cons h2
      subst hr he
      simp only [rdOr] at pr ⊢
      exact s_orV pa pr
termination_by (sizeOf e, 1)
theorem snd_AndT (e : E) {X : Cx} {W : WX} {xs : List Expr} {pos : Pos} (c : Ctx X W k G) (h : chkB (G.ck X.N) X.env.scope e xs = true) (n : xs ≠ []) : PW X (.BoolOp .And xs pos) (liftT X.K W (rdAndT G.sps e)) := by
  cases xs with
  | nil => exact absurd rfl n
  | cons x xs =>
    obtain ⟨a, r, he, h1, h2⟩ := chkB_cons h
    have l1 : sizeOf a < sizeOf e := by rw [he]; simp only [E.cons.sizeOf_spec]; omega
    have l2 : sizeOf r < sizeOf e := by rw [he]; simp only [E.cons.sizeOf_spec]; omega
    have pa := snd_T a c (W := W) h1.2.2 h1.2.1
    cases xs with
    | nil =>
      have e2 := chkB_nil h2
      subst e2 he
      rw [rdAndT]
      exact pw_and1 pa
    | cons y ys =>
      have pr := snd_AndT r c (W := W) (pos := pos) h2 (by simp)
      obtain ⟨b, r', hr, _⟩ := chkB_cons h2
      subst hr he
      simp only [rdAndT] at pr ⊢
      exact s_andT pa pr
termination_by (sizeOf e, 1)
theorem snd_OrT (e : E) {X : Cx} {W : WX} {xs : List Expr} {pos : Pos} (c : Ctx X W k G) (h : chkB (G.ck X.N) X.env.scope e xs = true) (n : xs ≠ []) : PW X (.BoolOp .Or xs pos) (liftT X.K W (rdOrT G.sps e)) := by
  cases xs with
  | nil => exact absurd rfl n
  | cons x xs =>
    obtain ⟨a, r, he, h1, h2⟩ := chkB_cons h
    have l1 : sizeOf a < sizeOf e := by rw [he]; simp only [E.cons.sizeOf_spec]; omega
    have l2 : sizeOf r < sizeOf e := by rw [he]; simp only [E.cons.sizeOf_spec]; omega
    have pa := snd_T a c (W := W) h1.2.2 h1.2.1
    cases xs with
    | nil =>
      have e2 := chkB_nil h2
      subst e2 he
      rw [rdOrT]
      exact pw_or1 pa
    | cons y ys =>
      have pr := snd_OrT r c (W := W) (pos := pos) h2 (by simp)
      obtain ⟨b, r', hr, _⟩ := chkB_cons h2
      subst hr he
      simp only [rdOrT] at pr ⊢
      exact s_orT pa pr
termination_by (sizeOf e, 1)
theorem snd_A (e : E) {X : Cx} {W : WX} {xs : List Expr} (c : Ctx X W k G) (h : chkA (G.ck X.N) X.env.scope e xs = true) : PA X xs (liftA X.K W (rdA G.sps e)) := by
  cases xs with
  | nil =>
    cases chkA_nil h
    rw [rdA]
    exact s_nil
  | cons x xs =>
    obtain ⟨a, r, he, h1, h2⟩ := chkA_cons h
    have l1 : sizeOf a < sizeOf e := by rw [he]; simp only [E.cons.sizeOf_spec]; omega
    have l2 : sizeOf r < sizeOf e := by rw [he]; simp only [E.cons.sizeOf_spec]; omega
    have pa := snd_E a c (W := W) h1.2
    have pr := snd_A r c (W := W) h2
    subst he
    rw [rdA]
    exact s_cons pa pr h1.1
termination_by (sizeOf e, 1)
theorem snd_D (e : E) {X : Cx} {W : WX} {ks : List (Option Expr)} {vs : List Expr} {pos : Pos} (c : Ctx X W k G) (h : chkD (G.ck X.N) X.env.scope e ks vs = true) :
    ∃ trs, PPs X pos ks vs trs ∧ ks.all (·.isSome) = true ∧ ks.length = vs.length ∧ ∀ σ H Q, liftA X.K W (rdA G.sps e) σ H (fun xs H' => ∃ ps, xs = flatP ps ∧ Q ps H') → tPairs trs σ H Q := by
  cases ks with
  | nil =>
    obtain ⟨e1, e2⟩ := chkD_nil h
    subst e1 e2
    rw [rdA]
    exact ⟨[], pps_nil, rfl, rfl, pairs_nil⟩
  | cons k' ks =>
    obtain ⟨a, b, r, x, y, ws, he, hk, hv, h1, h2, h3⟩ := chkD_cons h
    have l1 : sizeOf a < sizeOf e := by rw [he]; simp only [E.cons.sizeOf_spec]; omega
    have l2 : sizeOf b < sizeOf e := by rw [he]; simp only [E.cons.sizeOf_spec]; omega
    have l3 : sizeOf r < sizeOf e := by rw [he]; simp only [E.cons.sizeOf_spec]; omega
    have pa := snd_E a c (W := W) (an h1).2
    have pb := snd_E b c (W := W) (an h2).2
    obtain ⟨trs, p1, p2, p3, p4⟩ := snd_D r c (W := W) (pos := pos) h3
    subst he hk hv
    refine ⟨_, pps_cons pa pb p1, by simp [p2], by simp [p3], ?_⟩
    simp only [rdA]
    exact pairs_step p4
termination_by (sizeOf e, 1)
theorem snd_O (e : E) {X : Cx} {W : WX} {l : Option Expr} (c : Ctx X W k G) (h : (match l with
    | none => isNil e
    | some x => okHead x && chkE (G.ck X.N) X.env.scope e x) = true) : L2.PO X l (liftO X.K W (rdO G.sps e)) := by
  cases l with
  | none =>
    have h : isNil e = true := h
    cases e <;> first | (rw [rdO]; exact s_none) | cases h
  | some x =>
    have pe := snd_E e c (W := W) (an h).2
    have h2 := (an h).2
    cases e with
    | nil => unfold chkE at h2; cases h2
    | _ => simp only [rdO]; exact s_some pe
termination_by (sizeOf e, 2)
theorem snd_C (e : E) {X : Cx} {W : WX} {xs : List Expr} (c : Ctx X W k G) (h : chkC (G.ck X.N) X.env.scope e xs = true) : PTs X xs (liftT X.K W (rdC G.sps e)) := by
  cases xs with
  | nil =>
    cases chkC_nil h
    rw [rdC]
    exact s_ptsnil
  | cons x xs =>
    obtain ⟨a, he, hx, _, h1, h2⟩ := chkC_cons h
    have l1 : sizeOf a < sizeOf e := by rw [he]; simp only [E.cons.sizeOf_spec]; omega
    have pt := snd_T a c (W := W) h2 h1
    subst he hx
    rw [rdC]
    exact pts_one pt
termination_by (sizeOf e, 2)
theorem snd_I (e : E) {X : Cx} {W : WX} {tg x : Expr} (c : Ctx X W k G) (h : chkI (G.ck X.N) X.env.scope e tg x = true) : PI X tg x (liftI X.K W (rdI G.sps e)) := by
  match e, h with
  | .itL e, h => rw [rdI]; exact s_itL (snd_E e c (an h).2)
  | .itR1 e, h =>
    obtain ⟨n, p, y, pos, hx, g⟩ := invI_R1 h
    subst hx
    simp only [Bool.and_eq_true_iff] at g
    cases deq g.1.1
    rw [rdI]
    exact s_itR1 c g.1.2 (snd_E e c g.2.2) g.2.1
  | .itR2 a b, h =>
    obtain ⟨n, p, y, z, pos, hx, g⟩ := invI_R2 h
    subst hx
    simp only [Bool.and_eq_true_iff] at g
    cases deq g.1.1.1
    rw [rdI]
    exact s_itR2 c g.1.1.2 (snd_E a c g.1.2.2) (snd_E b c g.2.2) g.1.2.1 g.2.1
  | .itEL e, h =>
    obtain ⟨es, kk, tpos, n, p, y, pos, ht, hx, g⟩ := invI_EL h
    subst ht hx
    simp only [Bool.and_eq_true_iff] at g
    cases deq g.1.1
    rw [rdI]
    exact s_itEL c g.1.2 (snd_E e c g.2.2) g.2.1
  | .var _, h | .int _, h | .bl _, h | .str _, h | .non, h | .gint _ _, h | .gstr _ _, h | .op _ _ _, h | .neg _, h | .cmp _ _ _, h | .chain _ _ _ _ _, h | .land _, h | .lor _, h | .lnot _, h | .ife _ _ _, h | .tup _, h | .lst _, h | .dic _, h | .ix _ _, h | .sl _ _ _, h
  | .rev _, h | .b1 _ _, h | .b2 _ _ _, h | .isi _ _, h | .mth _ _ _, h | .call _ _, h | .meth _ _ _, h | .make _ _, h | .fld _ _ _, h | .comp _ _ _ _ _, h | .itT _, h | .itS _, h | .itET _, h | .itES _, h | .nil, h | .cons _ _, h => unfold chkI at h; cases h
termination_by (sizeOf e, 2)
end
end
end Lit
/-! Statements. -/
namespace Lit
open PySem PySem.Spec PyProof.Rows L2

/-! ### is this text that statement -/
def locB (sc : Scope) (x : Str) : Bool := match sc.names.lookup x with
  | some .local => true
  | _ => false
/-- a list comprehension laid right into its name -/
def swB (sc : Scope) (x t : Expr) : Bool := match x, t with
  | .ListComp _ _ s p, .Name y py => locB sc y && py.line == p.line && !(s.names.any fun (n, k) => n == y && (k == .local || k == .cell))
  | _, _ => false
/-- a list comprehension laid where no name of the def's own takes it at once -/
def swN (sc : Scope) (x t : Expr) : Bool := match x, t with
  | .ListComp _ _ _ p, .Name y py => (match sc.names.lookup y with
    | some .cell => true
    | _ => false) || !(py.line == p.line)
  | _, _ => true
def isTupE : Expr → Bool
  | .Tuple .. => true
  | .List .. => true
  | _ => false
def isNameE : Expr → Bool
  | .Name .. => true
  | _ => false
/-- stores in the usual order -/
def stoB (t x : Expr) : Bool := match t, x with
  | .Tuple ts _ _, .Tuple vs _ _ => !(ts.length == 2 || ts.length == 3) || vs.length != ts.length || vs.all (foldedForSure 8) && !(vs.any fun | .Starred .. => true | _ => false)
  | .List .., _ => false
  | _, _ => true
def par2B (sc : Scope) (x y : Str) (px py : Pos) (a b : Expr) : Bool := locB sc x && locB sc y && px.line == py.line && !([a, b].all (foldedForSure 8)) && !([a, b].all (constantsAlone 8))
def par3B (sc : Scope) (x y z : Str) (px py pz : Pos) (a b c : Expr) : Bool := locB sc x && locB sc y && locB sc z && px.line == py.line && px.line == pz.line && !([a, b, c].all (foldedForSure 8)) && !([a, b, c].all (constantsAlone 8))
mutual
def chkS (c : Ck) (sc : Scope) : S → Stmt → Bool
  | .expr e, .Expr x _ => okHead x && !isComp x && chkE c sc e x
  | .pass, .Expr (.Constant (.str _) _ _) _ => true
  | .pass, .Pass _ => true
  | .brk, .Break _ => true
  | .cont, .Continue _ => true
  | .set tg e, .Assign [t] x _ => okHead t && okHead x && chkE c sc e x && chkTg c sc none tg t && swN sc x t && stoB t x
  | .setC i (.comp it tg vs cond elt), .Assign [.Name y py] (.ListComp e [⟨t, iter, ifs, 0⟩] scope pos) _ => decide (c.N[i]? = some y) && locB sc y && swB sc (.ListComp e [⟨t, iter, ifs, 0⟩] scope pos) (.Name y py) &&
      chkE c sc (.comp it tg vs cond elt) (.ListComp e [⟨t, iter, ifs, 0⟩] scope pos)
  | .setI o i e, .Assign [.Subscript o' i' _] x _ => okHead x && chkE c sc e x && okHead o' && chkE c sc o o' && okHead i' && chkE c sc i i'
  | .par2 i j a b, .Assign [.Tuple [.Name x px, .Name y py] _ _] (.Tuple [a', b'] _ _) _ => decide (c.N[i]? = some x) && decide (c.N[j]? = some y) && decide (i ≠ j) && par2B sc x y px py a' b' && decide (x ≠ y) && (okHead a' && chkE c sc a a') && (okHead b' && chkE c sc b b')
  | .par3 i j l a b d, .Assign [.Tuple [.Name x px, .Name y py, .Name z pz] _ _] (.Tuple [a', b', d'] _ _) _ => decide (c.N[i]? = some x) && decide (c.N[j]? = some y) && decide (c.N[l]? = some z) && decide (i ≠ j) && decide (i ≠ l) && decide (j ≠ l) &&
      par3B sc x y z px py pz a' b' d' && decide (x ≠ y) && decide (x ≠ z) && decide (y ≠ z) && (okHead a' && chkE c sc a a') && (okHead b' && chkE c sc b b') && (okHead d' && chkE c sc d d')
  | .aug i e, .AugAssign (.Name x _) .Add y _ => decide (c.N[i]? = some x) && stB sc none x && okHead y && chkE c sc e y
  | .ret e, .Return (some x) _ => okHead x && chkE c sc e x
  | .retN, .Return none _ => true
  | .ife t a b, .If x y z _ => okHead x && testOk t x && chkE c sc t x && chkSs c sc a y && chkSs c sc b z
  | .whl t b, .While x y [] _ => okHead x && testOk t x && chkE c sc t x && chkSs c sc b y
  | .for_ it tg b, .For t iter y [] _ => okHead t && okHead iter && chkI c sc it t iter && chkTg c sc none tg t && chkSs c sc b y
  | _, _ => false
def chkSs (c : Ck) (sc : Scope) : S → List Stmt → Bool
  | .nil, [] => true
  | .cons a r, x :: xs => chkS c sc a x && chkSs c sc r xs
  | _, _ => false
end

/-! ### readings of told states -/
structure OutS (K : PySem.W.Frag) (W : WX) (H : Hp) (h : PH) (Z : DEnds) (D : Ends) : Prop where
  nx : ∀ ρ' h' σ' H', Z.nx ρ' h' → RelS K H' ρ' σ' → RelH K H' h' → Frm H h H' h' → D.nx σ' H'
  rt : ∀ d h' v H', Z.rt d h' → RelD K H' d v → RelH K H' h' → Frm H h H' h' → D.rt v H'
  bk : ∀ ρ' h' σ' H', Z.bk ρ' h' → RelS K H' ρ' σ' → RelH K H' h' → Frm H h H' h' → D.bk σ' H'
  ct : ∀ ρ' h' σ' H', Z.ct ρ' h' → RelS K H' ρ' σ' → RelH K H' h' → Frm H h H' h' → D.ct σ' H'
  xq : ∀ ρ' x h' σ' cls dd H', Z.xq ρ' x h' → RelS K H' ρ' σ' → RelX K H' x cls dd → RelH K H' h' → Frm H h H' h' → W cls dd σ' H'
def liftS (K : PySem.W.Frag) (W : WX) (r : RS) : TS := fun D σ H => ∃ ρ h Z, RelS K H ρ σ ∧ RelH K H h ∧ r Z ρ h ∧ OutS K W H h Z D
section
variable {K : PySem.W.Frag} {W : WX} {σ : L2.St} {H H1 : Hp} {h h1 : PH} {Z : DEnds} {De : Ends} {ρ : Rho}
theorem OutS.step (o : OutS K W H h Z De) (f : Frm H h H1 h1) : OutS K W H1 h1 Z De :=
  ⟨fun _ _ _ _ a b c d => o.nx _ _ _ _ a b c (f.trans d), fun _ _ _ _ a b c d => o.rt _ _ _ _ a b c (f.trans d), fun _ _ _ _ a b c d => o.bk _ _ _ _ a b c (f.trans d), fun _ _ _ _ a b c d => o.ct _ _ _ _ a b c (f.trans d),
    fun _ _ _ _ _ _ _ a b c d e => o.xq _ _ _ _ _ _ _ a b c d (f.trans e)⟩
theorem OutS.ox (o : OutS K W H h Z De) (rs : RelS K H ρ σ) (rh : RelH K H h) : OutX K W σ H h (Z.xq ρ) := fun x h' cls dd H' q a b f => o.xq _ _ _ _ _ _ _ q (rs.keep (f.keeps rh)) a b f
theorem liftE.bindS {ra : RE} {Q : VK} {P : D → PH → Prop} (rs : RelS K H ρ σ) (rh : RelH K H h) (o : OutS K W H h Z De) (q : ra ρ h (Z.xq ρ) P)
    (k : ∀ d h1 v H1, P d h1 → RelD K H1 d v → RelH K H1 h1 → Frm H h H1 h1 → RelS K H1 ρ σ → OutS K W H1 h1 Z De → Q v H1) : liftE K W ra σ H Q :=
  liftE.bind rs rh q (o.ox rs rh) fun d h1 v H1 p a b c e f _ => k d h1 v H1 p a b c f (o.step c)
end
section
variable {X : Cx} {W : WX} {k : Nat} {G : Sig}
structure CtxS (X : Cx) (W : WX) (k : Nat) (G : Sig) : Prop extends Ctx X W k G where
  kind : X.env.scope.kind = .function
  st : Stores X none
  passes : PassesOwn (model X.prog X.w) X.A X.env X.xe

theorem sw_ok {x t : Expr} {l : Nat} {env : Env} (hk : env.scope.kind = .function) (ok : okHead x = true) (h : swN env.scope x t = true) : swapsWith x (some t) l env = pure false := by
  have hb : env.blockKind = .function := by unfold Env.blockKind; rw [hk]; rfl
  cases x <;> first | cases ok; done | rfl | skip
  rename_i e g s p
  cases t <;> first | rfl | skip
  rename_i y py
  have h : ((match env.scope.names.lookup y with
    | some .cell => true
    | _ => false) || !(py.line == p.line)) = true := h
  unfold swapsWith
  have e2 : (Expr.ListComp e g s p).pos = p := rfl
  simp only [hb, e2]
  rw [Bool.or_eq_true_iff] at h
  rcases h with h | h
  · have e1 : (env.kindOf y == some NameKind.local) = false := by
      unfold Env.kindOf
      split at h
      · rename_i z; rw [z]; rfl
      · cases h
    simp only [e1, Bool.and_false, Bool.false_and]
  · rw [bang h]
    simp only [Bool.and_false, Bool.false_and]
theorem sole_ok {x t : Expr} {l : Nat} {env : Env} (hk : env.scope.kind = .function) (ok : okHead x = true) (h : swN env.scope x t = true) : swapsWithSole [t] x l env = pure false := sw_ok hk ok h
theorem sto_ok {x t : Expr} {env : Env} (h : stoB t x = true) : swappedStores [t] x env = pure none := by
  unfold swappedStores
  unfold stoB at h
  split at h
  · rename_i ts _ _ vs _ _
    simp only [Bool.or_eq_true_iff, Bool.and_eq_true_iff] at h
    by_cases c : (!(ts.length == 2 || ts.length == 3) || vs.length != ts.length || env.blockKind != .function) = true
    · exact if_pos c
    · rcases h with h | ⟨h3, h4⟩
      · exfalso
        apply c
        rcases h with h | h <;> simp only [h, Bool.true_or, Bool.or_true]
      · refine (if_neg c).trans ((if_neg (fun z => ?_)).trans ?_)
        · exact Bool.noConfusion (z.symm.trans (bang h4) : true = false)
        · dsimp only
          split
          · rfl
          · first | rfl | exact if_pos h3
  · cases h
  · rename_i h1 h2
    cases t <;> first | rfl | exact (h1 _ _ rfl).elim | skip
    cases x <;> first | rfl | exact (h2 _ _ _ _ _ _ rfl rfl).elim
theorem loc_kind {env : Env} {x : Str} (h : locB env.scope x = true) : env.scope.names.lookup x = some .local := by
  unfold locB at h
  split at h
  · assumption
  · cases h
theorem star_or (x : Expr) : (match x with
    | .Starred .. => true
    | _ => false) = false ∨ okHead x = false := by cases x <;> first | exact .inl rfl | exact .inr rfl
theorem star_any : ∀ {xs : List Expr}, xs.all okHead = true → (xs.any fun | .Starred .. => true | _ => false) = false
  | [], _ => rfl
  | x :: xs, h => by
    rw [List.all_cons, Bool.and_eq_true_iff] at h
    rw [List.any_cons, star_any h.2, Bool.or_false]
    rcases star_or x with e | e
    · exact e
    · rw [e] at h
      cases h.1
theorem par2_ok {x y : Str} {px py p p2 : Pos} {k k2 : Nat} {a b : Expr} {env : Env} (hk : env.scope.kind = .function) (h : par2B env.scope x y px py a b = true) (ne : x ≠ y) (oa : okHead a = true) (ob : okHead b = true) :
    swappedStores [.Tuple [.Name x px, .Name y py] k p] (.Tuple [a, b] k2 p2) env = pure (some [x, y]) := by
  have hb : env.blockKind = .function := by unfold Env.blockKind; rw [hk]; rfl
  unfold par2B at h
  simp only [Bool.and_eq_true_iff] at h
  obtain ⟨⟨⟨⟨h1, h2⟩, h3⟩, h4⟩, h5⟩ := h
  have k1 : env.kindOf x = some .local := loc_kind h1
  have k2 : env.kindOf y = some .local := loc_kind h2
  have l : (py.line == px.line) = true := by rw [beq_iff_eq] at h3 ⊢; exact h3.symm
  have l1 : (px.line == px.line) = true := by rw [beq_iff_eq]
  have q : ([x, y].eraseDups.length != 2) = false := by
    have : (y == x) = false := by rw [beq_eq_false_iff_ne]; exact fun e => ne e.symm
    simp [List.eraseDups, List.eraseDupsBy, List.eraseDupsBy.loop, this]
  have e1 : (Expr.Name x px).pos = px := rfl
  have sa : ([a, b].any fun | .Starred .. => true | _ => false) = false := star_any (by simp only [List.all_cons, List.all_nil, oa, ob, Bool.and_self])
  have bt : (true == true) = true := rfl
  unfold swappedStores
  refine (if_neg (fun z => by rw [hb] at z; exact Bool.noConfusion (show false = true from z))).trans ((if_neg (fun z => Bool.noConfusion (sa.symm.trans z : false = true))).trans ?_)
  simp only [List.head?_cons, Option.map_some, Option.getD_some, e1, List.filterMap_cons, List.filterMap_nil, k1, k2, l, l1, beq_self_eq_true, Bool.and_self, if_true]
  refine (if_neg (fun z => ?_)).trans ((if_neg (fun z => ?_)).trans ((if_neg (fun z => ?_)).trans rfl))
  · have z' : ((2 != 2) || ([x, y].eraseDups.length != 2)) = true := z
    rw [q] at z'
    cases z'
  · rw [z] at h4; cases h4
  · rw [z] at h5; cases h5
theorem par3_ok {x y w : Str} {px py pw p p2 : Pos} {k k2 : Nat} {a b d : Expr} {env : Env} (hk : env.scope.kind = .function) (h : par3B env.scope x y w px py pw a b d = true) (ne : x ≠ y) (n2 : x ≠ w) (n3 : y ≠ w) (oa : okHead a = true) (ob : okHead b = true) (od : okHead d = true) :
    swappedStores [.Tuple [.Name x px, .Name y py, .Name w pw] k p] (.Tuple [a, b, d] k2 p2) env = pure (some [x, y, w]) := by
  have hb : env.blockKind = .function := by unfold Env.blockKind; rw [hk]; rfl
  unfold par3B at h
  simp only [Bool.and_eq_true_iff] at h
  obtain ⟨⟨⟨⟨⟨⟨h1, h2⟩, h2'⟩, h3⟩, h3'⟩, h4⟩, h5⟩ := h
  have k1 : env.kindOf x = some .local := loc_kind h1
  have k2 : env.kindOf y = some .local := loc_kind h2
  have k3 : env.kindOf w = some .local := loc_kind h2'
  have l : (py.line == px.line) = true := by rw [beq_iff_eq] at h3 ⊢; exact h3.symm
  have l' : (pw.line == px.line) = true := by rw [beq_iff_eq] at h3' ⊢; exact h3'.symm
  have l1 : (px.line == px.line) = true := by rw [beq_iff_eq]
  have q : ([x, y, w].eraseDups.length != 3) = false := by
    have q1 : (y == x) = false := by rw [beq_eq_false_iff_ne]; exact fun e => ne e.symm
    have q2 : (w == x) = false := by rw [beq_eq_false_iff_ne]; exact fun e => n2 e.symm
    have q3 : (w == y) = false := by rw [beq_eq_false_iff_ne]; exact fun e => n3 e.symm
    simp [List.eraseDups, List.eraseDupsBy, List.eraseDupsBy.loop, q1, q2, q3]
  have e1 : (Expr.Name x px).pos = px := rfl
  have sa : ([a, b, d].any fun | .Starred .. => true | _ => false) = false := star_any (by simp only [List.all_cons, List.all_nil, oa, ob, od, Bool.and_self])
  unfold swappedStores
  refine (if_neg (fun z => by rw [hb] at z; exact Bool.noConfusion (show false = true from z))).trans ((if_neg (fun z => Bool.noConfusion (sa.symm.trans z : false = true))).trans ?_)
  simp only [List.head?_cons, Option.map_some, Option.getD_some, e1, List.filterMap_cons, List.filterMap_nil, k1, k2, k3, l, l', l1, beq_self_eq_true, Bool.and_self, if_true]
  refine (if_neg (fun z => ?_)).trans ((if_neg (fun z => ?_)).trans ((if_neg (fun z => ?_)).trans rfl))
  · have z' : ((3 != 3) || ([x, y, w].eraseDups.length != 3)) = true := z
    rw [q] at z'
    cases z'
  · rw [z] at h4; cases h4
  · rw [z] at h5; cases h5
end
end Lit
namespace Lit
open PySem PySem.Spec PyProof.Rows L2
theorem _root_.L2.PS.liftS {X : Cx} {W : WX} {e : Stmt} {t : TS} {r : RS} (p : PS X e t) (h : ∀ (De : Ends) σ H ρ h Z, RelS X.K H ρ σ → RelH X.K H h → r Z ρ h → OutS X.K W H h Z De → t De σ H) : PS X e (liftS X.K W r) :=
  p.lift fun De σ H ⟨ρ, hh, Z, rs, rh, q, o⟩ => h De σ H ρ hh Z rs rh q o
section
variable {X : Cx} {W : WX} {k : Nat} {G : Sig}
theorem st_expr {x : Expr} {pos : Pos} {re : RE} (he : PE X x (liftE X.K W re)) (hs : swapsWith x none pos.line X.env = pure false) : PS X (.Expr x pos) (liftS X.K W fun Z ρ h => re ρ h (Z.xq ρ) fun _ h1 => Z.nx ρ h1) :=
  (ps_expr he hs).liftS fun De σ H ρ h Z rs rh q o => liftE.bindS rs rh o q fun d h1 v H1 p a b c e f => f.nx _ _ _ _ p e b .refl
theorem st_ret {x : Expr} {pos : Pos} {re : RE} (he : PE X x (liftE X.K W re)) : PS X (.Return (some x) pos) (liftS X.K W fun Z ρ h => re ρ h (Z.xq ρ) Z.rt) :=
  (ps_ret he).liftS fun De σ H ρ h Z rs rh q o => liftE.bindS rs rh o q fun d h1 v H1 p a b c e f => f.rt _ _ _ _ p a b .refl
theorem st_retN {pos : Pos} : PS X (.Return none pos) (liftS X.K W fun Z _ h => Z.rt .non h) :=
  ps_retN.liftS fun De σ H ρ h Z rs rh q o => o.rt _ _ .non _ q (by simp only [RelD]) rh .refl
theorem st_next {x : Stmt} (p : PS X x tNext) : PS X x (liftS X.K W fun Z ρ h => Z.nx ρ h) := p.liftS fun De σ H ρ h Z rs rh q o => o.nx _ _ _ _ q rs rh .refl
theorem st_brk {pos : Pos} : PS X (.Break pos) (liftS X.K W fun Z ρ h => Z.bk ρ h) := ps_break.liftS fun De σ H ρ h Z rs rh q o => o.bk _ _ _ _ q rs rh .refl
theorem st_cont {pos : Pos} : PS X (.Continue pos) (liftS X.K W fun Z ρ h => Z.ct ρ h) := ps_continue.liftS fun De σ H ρ h Z rs rh q o => o.ct _ _ _ _ q rs rh .refl
theorem sole1 {t : Expr} (h : okHead t = true) (env : Env) : (assignEach [t] env).map (·.2) = [assign t env] := by cases t <;> first | rfl | cases h
theorem st_set (c : CtxS X W k G) {t x : Expr} {pos : Pos} {tg : Tg} {re : RE} (he : PE X x (liftE X.K W re)) (ot : okHead t = true) (ox : okHead x = true) (ht : chkTg (G.ck X.N) X.env.scope none tg t = true) (hs : swN X.env.scope x t = true) (hw : stoB t x = true) :
    PS X (.Assign [t] x pos) (liftS X.K W fun Z ρ h => re ρ h (Z.xq ρ) fun d h1 => match asg tg d ρ with
      | some ρ1 => Z.nx ρ1 h1
      | none => False) := by
  refine (ps_asg he (pg_tg (N := []) c.toCtx c.st ht) (sole_ok c.kind ox hs) (sto_ok hw) (sole1 ot _)).liftS fun De σ H ρ h Z rs rh q o => liftE.bindS rs rh o q fun d h1 v H1 p a b cc e f => ?_
  cases e1 : asg tg d ρ with
  | none => rw [e1] at p; exact p.elim
  | some ρ1 =>
    rw [e1] at p
    exact asg_ok (vs := tgSlots tg) e1 a e (fun _ z => z) fun σ1 rs1 _ => f.nx _ _ _ _ p rs1 b .refl
theorem st_setC {i : Nat} {x : Stmt} {re : RE} (p : PS X x (tAsg (liftE X.K W re) (gName i))) : PS X x (liftS X.K W fun Z ρ h => re ρ h (Z.xq ρ) fun d h1 => Z.nx (ρ.set i (some d)) h1) :=
  p.liftS fun De σ H ρ h Z rs rh q o => liftE.bindS rs rh o q fun d h1 v H1 p a b c e f => f.nx _ _ _ _ p (e.set a i) b .refl
theorem sub1 {o i : Expr} {pos : Pos} {env : Env} (h : okHead i = true) : ∀ v, assign (.Subscript o i pos) env v = (do
      let ov ← holding [v] (eval o env)
      let iv ← holding [v, ov] (eval i env)
      standAt pos
      holding [v, ov, iv] (setItem ov iv v)
      release [v, ov, iv] []) := by
  intro v
  cases i <;> first | rfl | cases h
theorem stoSub {o i x : Expr} {p : Pos} : stoB (.Subscript o i p) x = true := by cases x <;> rfl
theorem swSub {sc : Scope} {o i x : Expr} {p : Pos} : swN sc x (.Subscript o i p) = true := by cases x <;> rfl
theorem st_setI (c : CtxS X W k G) {o i x : Expr} {p pos : Pos} {re ro ri : RE} (he : PE X x (liftE X.K W re)) (ho : PE X o (liftE X.K W ro)) (hi : PE X i (liftE X.K W ri)) (ox : okHead x = true) (oi : okHead i = true) :
    PS X (.Assign [.Subscript o i p] x pos) (liftS X.K W fun Z ρ h => re ρ h (Z.xq ρ) fun y h1 => ro ρ h1 (Z.xq ρ) fun x h2 => ri ρ h2 (Z.xq ρ) fun k h3 => setD x k y h3 fun h4 => Z.nx ρ h4) := by
  refine (ps_asg he (pg_sub ho hi (set_any c.u64) (sub1 oi)) (sole_ok c.kind ox swSub) (sto_ok stoSub) rfl).liftS fun De σ H ρ h Z rs rh q o => liftE.bindS rs rh o q fun d h1 v H1 p1 a1 b1 c1 e1 f1 => ?_
  refine liftE.bindS e1 b1 f1 p1 fun d2 h2 v2 H2 p2 a2 b2 c2 e2 f2 => ?_
  refine liftE.bindS e2 b2 f2 p2 fun d3 h3 v3 H3 p3 a3 b3 c3 e3 f3 => ?_
  have k2 := c2.keeps b1
  have k3 := c3.keeps b2
  exact ⟨d2, d3, d, h3, _, a2.keep k3, a3, (a1.keep k2).keep k3, b3, p3, fun h' H' q' r' fr => f3.nx _ _ _ _ q' (e3.keep (fr.keeps b3)) r' fr⟩
theorem st_par2 (c : CtxS X W k G) {i j : Nat} {x y : Str} {px py p p2 pos : Pos} {n n2 : Nat} {a b : Expr} {ra rb : RE} (ha : PE X a (liftE X.K W ra)) (hb : PE X b (liftE X.K W rb)) (oa : okHead a = true) (ob : okHead b = true) (hi : X.N[i]? = some x) (hj : X.N[j]? = some y) (hij : i ≠ j)
    (h : par2B X.env.scope x y px py a b = true) (ne : x ≠ y) : PS X (.Assign [.Tuple [.Name x px, .Name y py] n p] (.Tuple [a, b] n2 p2) pos) (liftS X.K W fun Z ρ h => ra ρ h (Z.xq ρ) fun x h1 => rb ρ h1 (Z.xq ρ) fun y h2 => Z.nx ((ρ.set i (some x)).set j (some y)) h2) := by
  have h' := h
  unfold par2B at h'
  simp only [Bool.and_eq_true_iff] at h'
  refine (ps_par (ta := tCons (liftE X.K W ra) (tCons (liftE X.K W rb) tNil)) c.calm c.nd hi hj hij (loc_kind h'.1.1.1.1) (loc_kind h'.1.1.1.2) (pa2 ha hb oa ob) (par2_ok c.kind h ne oa ob)).liftS fun De σ H ρ h Z rs rh q o => ?_
  refine liftE.bindS rs rh o q fun d h1 v H1 p1 a1 b1 c1 e1 f1 => ?_
  refine liftE.bindS e1 b1 f1 p1 fun d2 h2 v2 H2 p2 a2 b2 c2 e2 f2 => ?_
  exact ⟨v, v2, rfl, f2.nx _ _ _ _ p2 ((e2.set (a1.keep (c2.keeps b1)) i).set a2 j) b2 .refl⟩
theorem pa3 {a b d : Expr} {ra rb rd : RE} (ha : PE X a (liftE X.K W ra)) (hb : PE X b (liftE X.K W rb)) (hd : PE X d (liftE X.K W rd)) (oa : okHead a = true) (ob : okHead b = true) (od : okHead d = true) : PA X [a, b, d] (tCons (liftE X.K W ra) (tCons (liftE X.K W rb) (tCons (liftE X.K W rd) tNil))) :=
  pa_cons ha (pa_cons hb (pa_cons hd pa_nil (star_ok od _ _)) (star_ok ob _ _)) (star_ok oa _ _)
theorem st_par3 (c : CtxS X W k G) {i j l : Nat} {x y z : Str} {px py pz p p2 pos : Pos} {n n2 : Nat} {a b d : Expr} {ra rb rd : RE} (ha : PE X a (liftE X.K W ra)) (hb : PE X b (liftE X.K W rb)) (hd : PE X d (liftE X.K W rd)) (oa : okHead a = true) (ob : okHead b = true) (od : okHead d = true)
    (hi : X.N[i]? = some x) (hj : X.N[j]? = some y) (hl : X.N[l]? = some z) (hij : i ≠ j) (hil : i ≠ l) (hjl : j ≠ l) (h : par3B X.env.scope x y z px py pz a b d = true) (ne : x ≠ y) (n2' : x ≠ z) (n3 : y ≠ z) :
    PS X (.Assign [.Tuple [.Name x px, .Name y py, .Name z pz] n p] (.Tuple [a, b, d] n2 p2) pos) (liftS X.K W fun Z ρ h => ra ρ h (Z.xq ρ) fun x h1 => rb ρ h1 (Z.xq ρ) fun y h2 => rd ρ h2 (Z.xq ρ) fun z h3 => Z.nx (((ρ.set i (some x)).set j (some y)).set l (some z)) h3) := by
  have h' := h
  unfold par3B at h'
  simp only [Bool.and_eq_true_iff] at h'
  refine (ps_par3 (ta := tCons (liftE X.K W ra) (tCons (liftE X.K W rb) (tCons (liftE X.K W rd) tNil))) c.calm c.nd hi hj hl hij hil hjl (loc_kind h'.1.1.1.1.1.1) (loc_kind h'.1.1.1.1.1.2) (loc_kind h'.1.1.1.1.2) (pa3 ha hb hd oa ob od) (par3_ok c.kind h ne n2' n3 oa ob od)).liftS fun De σ H ρ h Z rs rh q o => ?_
  refine liftE.bindS rs rh o q fun d h1 v H1 p1 a1 b1 c1 e1 f1 => ?_
  refine liftE.bindS e1 b1 f1 p1 fun d2 h2 v2 H2 p2 a2 b2 c2 e2 f2 => ?_
  refine liftE.bindS e2 b2 f2 p2 fun d3 h3 v3 H3 p3 a3 b3 c3 e3 f3 => ?_
  have k2 := c2.keeps b1
  have k3 := c3.keeps b2
  exact ⟨v, v2, v3, rfl, f3.nx _ _ _ _ p3 (((e3.set ((a1.keep k2).keep k3) i).set (a2.keep k3) j).set a3 l) b3 .refl⟩
theorem st_aug (c : CtxS X W k G) {i : Nat} {x : Str} {p pos : Pos} {e : Expr} {re : RE} (he : PE X e (liftE X.K W re)) (hi : X.N[i]? = some x) (hs : stB X.env.scope none x = true) :
    PS X (.AugAssign (.Name x p) .Add e pos) (liftS X.K W fun Z ρ h => match ρ[i]? with
      | some (some x) => re ρ h (Z.xq ρ) fun y h1 => match x, y with
        | .int a, .int b => Z.nx (ρ.set i (some (.int (a + b)))) h1
        | _, _ => False
      | _ => False) := by
  obtain ⟨l, f⟩ := c.st x hs
  refine (ps_aug c.nd hi l he ip_add f).liftS fun De σ H ρ h Z rs rh q o => ?_
  have q2 : (match ρ[i]? with
      | some (some x) => re ρ h (Z.xq ρ) fun y h1 => match x, y with
        | .int a, .int b => Z.nx (ρ.set i (some (.int (a + b)))) h1
        | _, _ => False
      | _ => False) := q
  cases ei : ρ[i]? with
  | none => rw [ei] at q2; exact q2.elim
  | some oo =>
    cases oo with
    | none => rw [ei] at q2; exact q2.elim
    | some d =>
      rw [ei] at q2
      obtain ⟨v, hv, r⟩ := rs.2 i d ei
      refine ⟨v, hv, liftE.bindS rs rh o q2 fun d2 h1 v2 H1 p1 a1 b1 c1 e1 f1 => ?_⟩
      cases d with
      | int a =>
        cases d2 with
        | int b =>
          exact ⟨a, b, relInt r, relInt a1, f1.nx _ _ _ _ p1 (e1.set (v := .int (a + b)) (by simp only [RelD]) i) b1 .refl⟩
        | _ => exact p1.elim
      | _ => exact p1.elim
theorem st_if {x : Expr} {a b : List Stmt} {pos : Pos} {rt : RT} {ra rb : RS} (ht : PT X x (liftT X.K W rt)) (ha : PSs X a (liftS X.K W ra)) (hb : PSs X b (liftS X.K W rb)) :
    PS X (.If x a b pos) (liftS X.K W fun Z ρ h => rt ρ h (Z.xq ρ) fun k h1 => match k with
      | true => ra Z ρ h1
      | false => rb Z ρ h1) := by
  refine (ps_if ht ha hb).liftS fun De σ H ρ h Z rs rh q o => liftT.bind rs rh q (o.ox rs rh) fun k h1 H1 q1 rh1 f1 _ rs1 _ => ?_
  cases k with
  | true => exact iteT ⟨ρ, h1, Z, rs1, rh1, q1, o.step f1⟩
  | false => exact iteF ⟨ρ, h1, Z, rs1, rh1, q1, o.step f1⟩
theorem st_nil : PSs X [] (liftS X.K W fun Z ρ h => Z.nx ρ h) := pss_nil.lift fun De σ H ⟨ρ, h, Z, rs, rh, q, o⟩ => o.nx _ _ _ _ q rs rh .refl
theorem st_cons {x : Stmt} {xs : List Stmt} {ra rb : RS} (ha : PS X x (liftS X.K W ra)) (hb : PSs X xs (liftS X.K W rb)) : PSs X (x :: xs) (liftS X.K W fun Z ρ h => ra { Z with nx := rb Z } ρ h) :=
  (pss_cons ha hb).lift fun De σ H ⟨ρ, h, Z, rs, rh, q, o⟩ => ⟨ρ, h, { Z with nx := rb Z }, rs, rh, q, ⟨fun ρ' h' σ' H' z r1 r2 f => ⟨ρ', h', Z, r1, r2, z, o.step f⟩, o.rt, o.bk, o.ct, o.xq⟩⟩
theorem st_while (c : CtxS X W k G) {x : Expr} {body : List Stmt} {pos : Pos} {rt : RT} {rb : RS} (ht : PT X x (liftT X.K W rt)) (hb : PSs X body (liftS X.K W rb)) : PS X (.While x body [] pos) (liftS X.K W fun Z ρ h => ∃ n, whileN rt rb n Z ρ h) := by
  refine (ps_while c.passes ht hb).liftS fun De σ0 H0 ρ0 h0 Z rs0 rh0 ⟨n0, q0⟩ o => ?_
  refine ⟨fun n σ H => ∃ ρ h, RelS X.K H ρ σ ∧ RelH X.K H h ∧ Frm H0 h0 H h ∧ whileN rt rb n Z ρ h, ⟨n0, ρ0, h0, rs0, rh0, .refl, q0⟩, ?_⟩
  rintro n σ H ⟨ρ, h, rs, rh, f, q⟩
  cases n with
  | zero => exact False.elim q
  | succ n =>
    have q' : rt ρ h (Z.xq ρ) fun k h1 => match k with
      | true => rb { Z with nx := whileN rt rb n Z, ct := whileN rt rb n Z, bk := Z.nx } ρ h1
      | false => Z.nx ρ h1 := q
    have oo := o.step f
    refine liftT.bind rs rh q' (oo.ox rs rh) fun k h1 H1 q1 rh1 f1 _ rs1 _ => ?_
    have o1 := oo.step f1
    have f01 := f.trans f1
    cases k with
    | false => exact iteF (o1.nx _ _ _ _ q1 rs1 rh1 .refl)
    | true =>
      refine iteT ⟨fun σ H => ∃ ρ h, RelS X.K H ρ σ ∧ RelH X.K H h ∧ Frm H0 h0 H h ∧ whileN rt rb n Z ρ h, fun σ' H' z => ⟨n, Nat.lt_succ_self _, z⟩, ρ, h1, _, rs1, rh1, q1, ⟨?_, o1.rt, ?_, ?_, o1.xq⟩⟩
      · exact fun ρ' h' σ' H' z r1 r2 fr => ⟨ρ', h', r1, r2, f01.trans fr, z⟩
      · exact fun ρ' h' σ' H' z r1 r2 fr => o1.nx _ _ _ _ z r1 r2 fr
      · exact fun ρ' h' σ' H' z r1 r2 fr => ⟨ρ', h', r1, r2, f01.trans fr, z⟩
theorem st_for (c : CtxS X W k G) {t iter : Expr} {body : List Stmt} {pos : Pos} {tg : Tg} {ri : RI} {rb : RS} (hi : PI X t iter (liftI X.K W ri)) (hg : chkTg (G.ck X.N) X.env.scope none tg t = true) (oi : okHead iter = true) (hb : PSs X body (liftS X.K W rb)) :
    PS X (.For t iter body [] pos) (liftS X.K W fun Z ρ h => ri ρ h (Z.xq ρ) fun items stay h1 => forLoop tg rb stay items Z ρ h1) := by
  refine (ps_for c.passes c.calm hi (pg_tg (N := []) c.toCtx c.st hg) hb (folded_ok oi _)).liftS fun De σ0 H0 ρ0 h0 Z rs0 rh0 q0 o0 => ?_
  refine liftI.bind rs0 rh0 q0 (o0.ox rs0 rh0) fun items stay h1 J H1 q1 wd rh1 f1 _ rs1 _ => ?_
  have o := o0.step f1
  obtain ⟨st1, G', Y, w, hG, hY⟩ := wd
  refine L2.for_it w (fun i σ H => ∃ ρ h, RelS X.K H ρ σ ∧ RelH X.K H h ∧ Frm H1 h1 H h ∧ stay h ∧ forLoop tg rb stay (items.drop i) Z ρ h) ?_ ?_ ?_ ?_
  · exact ⟨ρ0, h1, rs1, rh1, .refl, st1, q1⟩
  · rintro i σ H - ⟨ρ, h, rs, rh, f, st, _⟩
    exact hG H h f rh st
  · rintro i x σ H H' hi' ⟨ρ, h, rs, rh, f, st, q⟩ y
    obtain ⟨d, hd, rx, rh', f'⟩ := hY i H h x H' hi' f rh st y
    rw [drop_some hd] at q
    simp only [forLoop] at q
    cases ea : asg tg d ρ with
    | none => rw [ea] at q; exact q.elim
    | some ρ1 =>
      rw [ea] at q
      have fx := f.trans f'
      have ox := o.step fx
      refine asg_ok (vs := tgSlots tg) ea rx (rs.keep (f'.keeps rh)) (fun _ z => z) fun σ1 rsA _ => ?_
      refine ⟨ρ1, h, _, rsA, rh', q, ⟨?_, ox.rt, ?_, ?_, ox.xq⟩⟩
      · exact fun ρ' h' σ' H'' z r1 r2 fr => ⟨ρ', h', r1, r2, fx.trans fr, z.1, z.2⟩
      · exact fun ρ' h' σ' H'' z r1 r2 fr => ox.nx _ _ _ _ z r1 r2 fr
      · exact fun ρ' h' σ' H'' z r1 r2 fr => ⟨ρ', h', r1, r2, fx.trans fr, z.1, z.2⟩
  · rintro σ H ⟨ρ, h, rs, rh, f, st, q⟩
    rw [List.drop_length] at q
    simp only [forLoop] at q
    exact o.nx _ _ _ _ q rs rh f
end
end Lit
namespace Lit
open PySem PySem.Spec PyProof.Rows L2
theorem swE {x : Expr} {l : Nat} {env : Env} (ok : okHead x = true) (h : isComp x = false) : swapsWith x none l env = pure false := by
  cases x <;> first | rfl | cases ok; done | cases h
section
variable {k : Nat} {G : Sig}
theorem chkSs_nil {c : Ck} {sc : Scope} {e : S} (h : chkSs c sc e [] = true) : e = .nil := by
  cases e <;> first | rfl | (unfold chkSs at h; cases h)
theorem chkSs_cons {c : Ck} {sc : Scope} {e : S} {x : Stmt} {xs : List Stmt} (h : chkSs c sc e (x :: xs) = true) : ∃ a r, e = .cons a r ∧ chkS c sc a x = true ∧ chkSs c sc r xs = true := by
  cases e <;> first | (unfold chkSs at h; exact ⟨_, _, rfl, Bool.and_eq_true_iff.mp h⟩) | (unfold chkSs at h; cases h)
mutual
theorem snd_Ss (e : S) {X : Cx} {W : WX} {xs : List Stmt} (c : CtxS X W k G) (h : chkSs (G.ck X.N) X.env.scope e xs = true) : PSs X xs (liftS X.K W (rdS G.sps e)) := by
  cases xs with
  | nil =>
    cases chkSs_nil h
    simp only [rdS]
    exact st_nil
  | cons x xs =>
    obtain ⟨a, r, he, h1, h2⟩ := chkSs_cons h
    have l1 : sizeOf a < sizeOf e := by rw [he]; simp only [S.cons.sizeOf_spec]; omega
    have l2 : sizeOf r < sizeOf e := by rw [he]; simp only [S.cons.sizeOf_spec]; omega
    have pa := snd_S a c h1
    have pr := snd_Ss r c h2
    subst he
    simp only [rdS]
    exact st_cons pa pr
termination_by (sizeOf e, 1)
theorem snd_S : ∀ (e : S) {X : Cx} {W : WX} {x : Stmt}, CtxS X W k G → chkS (G.ck X.N) X.env.scope e x = true → PS X x (liftS X.K W (rdS G.sps e))
  | .expr e, X, W, x, c, h => by
    unfold chkS at h
    split at h <;> first | (rename_i q; cases q; done) | cases h; done | skip
    rename_i q
    cases q
    simp only [Bool.and_eq_true_iff] at h
    simp only [rdS]
    exact st_expr (snd_E e c.toCtx h.2) (swE h.1.1 (bang h.1.2))
  | .pass, X, W, x, c, h => by
    simp only [rdS]
    unfold chkS at h
    split at h <;> first | (rename_i q; cases q; done) | cases h; done | skip
    · exact st_next ps_doc
    · exact st_next ps_pass
  | .brk, X, W, x, c, h => by
    simp only [rdS]
    unfold chkS at h
    split at h <;> first | (rename_i q; cases q; done) | cases h; done | skip
    exact st_brk
  | .cont, X, W, x, c, h => by
    simp only [rdS]
    unfold chkS at h
    split at h <;> first | (rename_i q; cases q; done) | cases h; done | skip
    exact st_cont
  | .set tg e, X, W, x, c, h => by
    unfold chkS at h
    split at h <;> first | (rename_i q; cases q; done) | cases h; done | skip
    rename_i q
    cases q
    simp only [Bool.and_eq_true_iff] at h
    simp only [rdS]
    exact st_set c (snd_E e c.toCtx h.1.1.1.2) h.1.1.1.1.1 h.1.1.1.1.2 h.1.1.2 h.1.2 h.2
  | .setC i e, X, W, x, c, h => by
    unfold chkS at h
    split at h <;> first | (rename_i q; cases q; done) | cases h; done | skip
    rename_i q
    cases q
    simp only [Bool.and_eq_true_iff] at h
    obtain ⟨⟨⟨h1, h2⟩, h3⟩, h4⟩ := h
    unfold swB at h3
    simp only [Bool.and_eq_true_iff] at h3
    obtain ⟨e', t, iter, ifs, scope, pos, hx, g⟩ := inv_comp h4
    cases hx
    simp only [Bool.and_eq_true_iff] at g
    simp only [rdS, rdE]
    exact st_setC (s_setLc c.toCtx (deq h1) (loc_kind h2) (sw_true c.kind (loc_kind h2) h3.1.2 (bang h3.2)) (snd_I _ c.toCtx g.1.1.1.1.1.1) g.1.1.1.1.1.2 g.1.1.1.1.2 g.1.1.1.2 g.1.1.2 (fun s H C cl fp => snd_C _ (c.toCtx.blk s H _ (compEnvC _ cl C X.env) fp) g.1.2) (fun s H C cl fp => snd_E _ (c.toCtx.blk s H _ (compEnvC _ cl C X.env) fp) g.2.2))
  | .setI o i e, X, W, x, c, h => by
    unfold chkS at h
    split at h <;> first | (rename_i q; cases q; done) | cases h; done | skip
    rename_i q
    cases q
    simp only [Bool.and_eq_true_iff] at h
    simp only [rdS]
    exact st_setI c (snd_E e c.toCtx h.1.1.1.1.2) (snd_E o c.toCtx h.1.1.2) (snd_E i c.toCtx h.2) h.1.1.1.1.1 h.1.2
  | .par2 i j a b, X, W, x, c, h => by
    unfold chkS at h
    split at h <;> first | (rename_i q; cases q; done) | cases h; done | skip
    rename_i q
    cases q
    simp only [Bool.and_eq_true_iff] at h
    obtain ⟨⟨⟨⟨⟨⟨h1, h2⟩, h3⟩, h4⟩, h5⟩, h6⟩, h7⟩ := h
    simp only [rdS]
    exact st_par2 c (snd_E a c.toCtx h6.2) (snd_E b c.toCtx h7.2) h6.1 h7.1 (deq h1) (deq h2) (deq h3) h4 (deq h5)
  | .par3 i j l a b d, X, W, x, c, h => by
    unfold chkS at h
    split at h <;> first | (rename_i q; cases q; done) | cases h; done | skip
    rename_i q
    cases q
    simp only [Bool.and_eq_true_iff] at h
    obtain ⟨⟨⟨⟨⟨⟨⟨⟨⟨⟨⟨⟨h1, h2⟩, h3⟩, h4⟩, h5⟩, h6⟩, h7⟩, h8⟩, h9⟩, h10⟩, h11⟩, h12⟩, h13⟩ := h
    simp only [rdS]
    exact st_par3 c (snd_E a c.toCtx h11.2) (snd_E b c.toCtx h12.2) (snd_E d c.toCtx h13.2) h11.1 h12.1 h13.1 (deq h1) (deq h2) (deq h3) (deq h4) (deq h5) (deq h6) h7 (deq h8) (deq h9) (deq h10)
  | .aug i e, X, W, x, c, h => by
    unfold chkS at h
    split at h <;> first | (rename_i q; cases q; done) | cases h; done | skip
    rename_i q
    cases q
    simp only [Bool.and_eq_true_iff] at h
    simp only [rdS]
    exact st_aug c (snd_E e c.toCtx h.2) (deq h.1.1.1) h.1.1.2
  | .ret e, X, W, x, c, h => by
    unfold chkS at h
    split at h <;> first | (rename_i q; cases q; done) | cases h; done | skip
    rename_i q
    cases q
    simp only [rdS]
    exact st_ret (snd_E e c.toCtx (an h).2)
  | .retN, X, W, x, c, h => by
    simp only [rdS]
    unfold chkS at h
    split at h <;> first | (rename_i q; cases q; done) | cases h; done | skip
    exact st_retN
  | .ife t a b, X, W, x, c, h => by
    unfold chkS at h
    split at h <;> first | (rename_i q; cases q; done) | cases h; done | skip
    rename_i q
    cases q
    simp only [Bool.and_eq_true_iff] at h
    simp only [rdS]
    exact st_if (snd_T t c.toCtx h.1.1.2 h.1.1.1.2) (snd_Ss a c h.1.2) (snd_Ss b c h.2)
  | .whl t b, X, W, x, c, h => by
    unfold chkS at h
    split at h <;> first | (rename_i q; cases q; done) | cases h; done | skip
    rename_i q
    cases q
    simp only [Bool.and_eq_true_iff] at h
    simp only [rdS]
    exact st_while c (snd_T t c.toCtx h.1.2 h.1.1.2) (snd_Ss b c h.2)
  | .for_ it tg b, X, W, x, c, h => by
    unfold chkS at h
    split at h <;> first | (rename_i q; cases q; done) | cases h; done | skip
    rename_i q
    cases q
    simp only [Bool.and_eq_true_iff] at h
    simp only [rdS]
    exact st_for c (snd_I it c.toCtx h.1.1.2) h.1.2 h.1.1.1.2 (snd_Ss b c h.2)
  | .setF _ _ _ _, X, W, x, c, h => by unfold chkS at h; first | cases h; done | (split at h <;> first | (rename_i q; cases q; done) | cases h)
  | .augF _ _ _ _, X, W, x, c, h => by unfold chkS at h; first | cases h; done | (split at h <;> first | (rename_i q; cases q; done) | cases h)
  | .raise _ _ _, X, W, x, c, h => by unfold chkS at h; first | cases h; done | (split at h <;> first | (rename_i q; cases q; done) | cases h)
  | .try1 _ _ _ _, X, W, x, c, h => by unfold chkS at h; first | cases h; done | (split at h <;> first | (rename_i q; cases q; done) | cases h)
  | .nil, X, W, x, c, h => by unfold chkS at h; first | cases h; done | (split at h <;> first | (rename_i q; cases q; done) | cases h)
  | .cons _ _, X, W, x, c, h => by unfold chkS at h; first | cases h; done | (split at h <;> first | (rename_i q; cases q; done) | cases h)
termination_by e => (sizeOf e, 0)
end
end
end Lit
/-! Defs and the law's end, with the guards told. -/
namespace Lit
open PySem PySem.Spec PyProof.Rows L2

/-- the context of a body -/
abbrev bx (P : Program) (w : World) (K : PySem.W.Frag) (mg : Str → Option Value) (base : Heap) (N : List Str) (ql : Str) (sc : Scope) (f : Addr) (cd : Value) (A : Around) (ou : List Env) (s : Shared) (H : Hp) (E : XK) : Cx :=
  cxOf (L2.CX P w) P w K mg base N ql sc f cd A ou s H E
section
variable {P : Program} {w : World} {K : PySem.W.Frag} {mg : Str → Option Value} {base : Heap} {k : Nat} {f : Addr} {x ql : Str} {pa : Arguments} {bd : List Stmt} {sc : Scope} {dvs : List V} {kws : List (Str × V)} {fd : FuncData} {N ps : List Str} {sp : Sp}
/-- what the body leaves is what the caller is given -/
theorem fin_of {cd : Value} {A : Around} {ou : List Env} {s s' : Shared} {H : Hp} {E : XK} {Q : VK} {fl : Flow} (q : SP (bx P w K mg base N ql sc f cd A ou s H E) [] { nx := fun _ H' => Q .non H', rt := Q } fl s') : CR (L2.CX P w) ou P w H s Q E (.ok fl) s' ∨ ∃ u, CE ou P w H s Q u s' ∧ ((fl = .next ∧ u = .none) ∨ fl = .ret u) := by
  cases fl with
  | brk => exact (let ⟨_, _, _, z⟩ := q; False.elim z)
  | cont => exact (let ⟨_, _, _, z⟩ := q; False.elim z)
  | next =>
    obtain ⟨st, Hn, J, z⟩ := q
    exact .inr ⟨.none, ⟨V.non, Hn, J.os, J.bare, J.base, J.hok, rfl, z⟩, .inl ⟨rfl, rfl⟩⟩
  | ret u =>
    obtain ⟨vv, st, Hn, J, r, z⟩ := q
    exact .inr ⟨u, ⟨vv, Hn, J.os, J.bare, J.base, J.hok, r, z⟩, .inr rfl⟩
theorem fnG_of (F : FunD K x ql pa bd sc dvs kws f fd) (S : FnScope N ps sc) (hl : ∀ vs H Q E, sp vs H Q E → vs.length = ps.length)
    (hb : ∀ (cd : Value) (A : Around) (ou : List Env) (s : Shared) (H : Hp) (vs : List V) (Q : VK) (E : XK), A.guards = some [] → Room k (A.deeper (envOfC ql sc s.heap.objs.size f cd)) → sp vs H Q E →
      ∃ t, PSs (bx P w K mg base N ql sc f cd A ou s H E) bd t ∧ t { nx := fun _ H' => Q .non H', rt := Q } (L2.start N vs) H) : FnG P w K mg base (k + 1) f fd ps sp := by
  obtain ⟨oc, od, dV, kV, doc, pm, an, cd, ct, osl, efd, lk, hc, _, _⟩ := F.ex
  cases efd
  constructor
  · exact hl
  intro A ou s H args us vs Q E hg hr e0 bt rv q
  have nv := hl vs H Q E q
  have inK : K.In s.heap := e0.mod.kin.keeps (fun b o z => (e0.bs b o z).1)
  have nolim : s.heap.NoLimit := e0.mod.nolimit.keeps (fun b o z => (e0.bs b o z).1)
  refine codeAny_call_function hr.depth (inK _ _ lk) rfl S.co S.gen rfl (PySem.W.codeRec_of inK hc) (bt _ _ _ _ (wpAny_newFunctionEnv_cells S.kind ?_ ?_))
  · rintro ⟨n, v⟩ hy
    rcases S.par n (List.of_mem_zip hy).1 with z | z
    · exact .inl z
    · exact .inr ⟨z, PySem.W.cellsFrom_some _ _ _ (.inl z)⟩
  · intro env he s1 x1
    cases he
    obtain ⟨t, ht, hq⟩ := hb cd A ou s H vs Q E hg (hr.deeper _) q
    have I : Inv (bx P w K mg base N ql sc f cd A ou s H E) [] (L2.start N vs) H s1 := inv_start S hr.hd e0 nv rv x1
    refine ⟨nolim.keeps x1.toInCall.keep, codeAny_func (wpAny_mono (ht.run [] s1 _ H _ I hq) ?_ fun _ _ z => z)⟩
    intro fl s2 z
    rcases fin_of z with c | ⟨u, c, ⟨rfl, rfl⟩ | rfl⟩
    · cases fl with
      | ret u => exact c
      | next => exact c.elim
      | brk => exact c.elim
      | cont => exact c.elim
    · exact c
    · exact c
end

/-! ### the body's context -/
structure Pr (P : Program) (w : World) (K : PySem.W.Frag) (mg : Str → Option Value) (base : Heap) (k : Nat) (G : Sig) : Prop where
  fns : ∀ (i : Nat) (f : Str) (sp : DSp), G.fns[i]? = some (f, sp) → ∃ fa fd ps j, j ≤ k ∧ mg f = some (.ref fa) ∧ PySem.W.keepIn K (.ref fa) = true ∧ FnG P w K mg base j fa fd ps (liftSp K sp) ∧ Binds K fd ps []
  blt : ∀ x ∈ G.blt, mg x = none
  gis : ∀ x i, (x, i) ∈ G.gis → ∃ t, mg x = some (.int i t)
  gss : ∀ x s, (x, s) ∈ G.gss → ∃ t, mg x = some (.str (mkS s) t)
section
variable {P : Program} {w : World} {K : PySem.W.Frag} {mg : Str → Option Value} {base : Heap} {k : Nat} {f : Addr} {x ql : Str} {pa : Arguments} {bd : List Stmt} {sc : Scope} {dvs : List V} {kws : List (Str × V)} {fd : FuncData} {N ps : List Str} {G : Sig}
theorem stores_fn {cd : Value} {A : Around} {ou : List Env} {s : Shared} {H : Hp} {E : XK} : Stores (bx P w K mg base N ql sc f cd A ou s H E) none := fun y h => by
  have h : stB sc none y = true := h
  unfold stB at h
  simp only [Option.getD_none] at h
  refine ⟨?_, .inl rfl⟩
  split at h
  · exact .inl (by assumption)
  · exact .inr (by assumption)
  · cases h
theorem ctx_fn {cd : Value} {A : Around} {ou : List Env} {s : Shared} {H : Hp} {E : XK} (p : Pr P w K mg base k G) (S : FnScope N ps sc) (hg : A.guards = some []) (hr : Room k (A.deeper (envOfC ql sc s.heap.objs.size f cd))) :
    CtxS (bx P w K mg base N ql sc f cd A ou s H E) (fun c d _ H => E c d H) k G where
  calm := rfl
  nd := S.nd
  tk := takes_of rfl rfl rfl rfl
  gd := hg
  room := hr
  fns := p.fns
  blt := p.blt
  gis := p.gis
  gss := p.gss
  kind := S.kind
  st := stores_fn
  passes := passes_of rfl
/-- the told slots at a body's start -/
def startD (n : Nat) (ds : List D) : Rho := ds.map some ++ List.replicate (n - ds.length) none
theorem start_rel {H : Hp} {ds : List D} {vs : List V} (r : RelDs K H ds vs) : RelS K H (startD N.length ds) (L2.start N vs) := by
  unfold startD L2.start
  rw [← r.len]
  refine ⟨by simp [r.len], fun i d e => ?_⟩
  by_cases hi : i < ds.length
  · rw [List.getElem?_append_left (by simpa using hi), List.getElem?_map] at e
    cases e1 : ds[i]? with
    | none => rw [e1] at e; cases e
    | some d' =>
      rw [e1] at e
      cases e
      obtain ⟨v, hv, rv⟩ := r.get' i d e1
      refine ⟨v, ?_, rv⟩
      rw [List.getElem?_append_left (by simp [r.len]; exact hi), List.getElem?_map, hv]
      rfl
  · rw [List.getElem?_append_right (by simpa using hi), List.getElem?_replicate] at e
    split at e <;> cases e
/-- a def by its syntax: its promise holds where the body's reading does -/
theorem def_ok (F : FunD K x ql pa bd sc dvs kws f fd) (Fs : FnScope N ps sc) (p : Pr P w K mg base k G) {e : S} (hc : chkSs (G.ck N) sc e bd = true) {sp : DSp} (hl : ∀ ds h xq Q, sp ds h xq Q → ds.length = ps.length)
    (hb : ∀ ds h xq Q, sp ds h xq Q → rdS G.sps e { nx := fun _ h' => Q .non h', rt := Q, xq := fun _ => xq } (startD N.length ds) h) : FnG P w K mg base (k + 1) f fd ps (liftSp K sp) := by
  refine fnG_of F Fs (fun vs H Q E ⟨ds, h, X0, Q0, r, _, q, _⟩ => ?_) fun cd A ou s H vs Q E hg hr ⟨ds, h, X0, Q0, r, rh, q, o, ox⟩ => ?_
  · rw [r.len]
    exact hl _ _ _ _ q
  · refine ⟨_, snd_Ss e (ctx_fn p Fs hg hr) hc, startD N.length ds, h, _, start_rel r, rh, hb _ _ _ _ q, ⟨?_, ?_, ?_, ?_, ?_⟩⟩
    · exact fun ρ' h' σ' H' z _ r2 fr => o _ _ _ _ z (by simp only [RelD]) r2 fr
    · exact fun d h' v H' z r1 r2 fr => o _ _ _ _ z r1 r2 fr
    · exact fun _ _ _ _ z => z.elim
    · exact fun _ _ _ _ z => z.elim
    · exact fun ρ' y h' σ' c dd H' z _ r1 r2 fr => ox _ _ _ _ _ z r1 r2 fr
end

/-! ### the law's end -/
/-- only the script is tracked, and it is only read -/
theorem law_end {P : Program} {w : World} {K : PySem.W.Frag} {mg mb : Str → Option Value} {k : Nat} {fa a : Addr} {fd : FuncData} {x : Str} {sp : DSp} {s₁ : Shared} {vs : List Value} {ns : List Int}
    (inK : K.In s₁.heap) (nsg : s₁.heap.Ns mainGlobals mg) (nsb : s₁.heap.Ns builtinsNs mb) (bb : ∀ y : Str, y ≠ "__name__" → mb y = bootBuiltins y) (nl : s₁.heap.NoLimit) (gn : s₁.gens = #[])
    (at_a : s₁.heap.get? a = some { cls := .type "list", data := .seq vs.toArray }) (are : IntsAre vs ns) (small : ns.length ≤ sizeLine) (room : Room k callerA)
    (F : ∀ base : Heap, K.In base → base.Ns mainGlobals mg → FnG P w K mg base k fa fd [x] (liftSp K sp)) (bind : ∀ (s : Shared) (u : Value), BindsTo s fd ⟨[u], []⟩ [(x, u)])
    (law : sp [.rol (ns.map D.int)] (fun _ => none) noX fun d _ => d = .bl true) :
    codeAny (model P w) callerA (.call (.ref fa) ⟨[.ref a], []⟩) (fun r s' => r = .ok (.ret (.bool true)) ∧ OldK s₁.heap s'.heap ∧ s'.os = s₁.os ∧ AllBare s'.gens) s₁ := by
  have rv := vals_ints are
  have nv := are.length
  have rels : ∀ (H : Hp) (l : List Int), RelDs K H (l.map D.int) (l.map V.int) := fun H l => by
    induction l with
    | nil => exact .nil
    | cons i l ih => exact .cons (by simp only [RelD]) ih
  suffices main : ∀ H : Hp, Only H → FzL K H a (ns.map V.int) → HOk P w H s₁.heap → (∀ b, H b ≠ none → b = a) → (H a ≠ none → K.lookup a = none) →
      codeAny (model P w) callerA (.call (.ref fa) ⟨[.ref a], []⟩) (fun r s' => r = .ok (.ret (.bool true)) ∧ OldK s₁.heap s'.heap ∧ s'.os = s₁.os ∧ AllBare s'.gens) s₁ by
    cases ek : K.lookup a with
    | some o =>
      have z := (inK a o ek).symm.trans at_a
      cases z
      exact main (fun _ => none) (fun _ => .inl rfl) (.inr ⟨_, vs.toArray, _, ek, rfl, rfl, rfl, by rw [List.size_toArray, nv]; exact small, by simpa using rv⟩) (fun b u z => nomatch (show (none : Option HO) = some u from z)) (fun b z => absurd rfl z) (fun z => absurd rfl z)
    | none =>
      let H : Hp := fun b => if b = a then some (.frz { cls := .type "list", data := .seq vs.toArray } (.lst (ns.map V.int))) else none
      have ha : H a = some (.frz { cls := .type "list", data := .seq vs.toArray } (.lst (ns.map V.int))) := if_pos rfl
      have hn : ∀ b, b ≠ a → H b = none := fun b z => if_neg z
      refine main H (fun b => ?_) (.inl ⟨_, ha⟩) (fun b u z => ?_) (fun b z => Classical.byContradiction fun q => z (hn b q)) fun _ => ek
      · by_cases q : b = a
        · subst q; exact .inr ⟨_, _, ha⟩
        · exact .inl (hn b q)
      · by_cases q : b = a
        · subst q
          cases ha.symm.trans z
          exact ⟨at_a, by rw [List.length_map]; exact small, vs, _, rv, at_a⟩
        · cases (hn b q).symm.trans z
  intro H only script hok one noK
  have plain : ∀ {b : Addr} {o : Obj}, s₁.heap.get? b = some o → (b = a → H b = none) → H b = none := fun {b o} e z => Classical.byContradiction fun q => q (z (one b q))
  have dictN : ∀ {b : Addr} {o : Obj} {es : Array DictEntry} {ep : Nat}, s₁.heap.get? b = some o → o.data = .dict es ep → H b = none := fun {b o es ep} e d => plain e fun z => by
    subst z
    cases e.symm.trans at_a
    exact nomatch (show Data.seq vs.toArray _ = Data.dict es ep from d)
  have hid : ∀ {b : Addr} {m : Str → Option Value}, s₁.heap.Ns b m → (hidT s₁.heap H).Ns b m := fun {b m} ⟨o, es, ep, e, d, r⟩ => ⟨o, es, ep, hidT_get e (dictN e d), d, r⟩
  have inB : K.In (hidT s₁.heap H) := fun b o e => hidT_get (inK b o e) (plain (inK b o e) fun z => Classical.byContradiction fun q => by
    subst z
    rw [noK q] at e
    cases e)
  have md : Mod K mg (hidT s₁.heap H) := ⟨inB, hid nsg, ⟨mb, hid nsb, bb⟩, let ⟨mc, n1, n2⟩ := nl; ⟨mc, hid n1, n2⟩⟩
  have env : Env0 P w K mg (hidT s₁.heap H) callerA [] s₁ H := ⟨rfl, md, fun b o e => of_hidT e, Nat.le_of_eq (hidT_size _ _), trivial, (fun b z => absurd (show b ∈ ([] : List Addr) from z) List.not_mem_nil), hok, .of_eq gn⟩
  have told : liftSp K sp [.ref a] H (fun v _ => v = .bl true) fun _ _ _ => False := by
    refine ⟨[.rol (ns.map D.int)], fun _ => none, noX, _, .one ?_, (fun b o z => by cases z), law, fun d h' v H' q r _ _ => ?_, fun x0 h2 cls dd H2 z => False.elim z⟩
    · simp only [RelD]
      exact ⟨a, _, rfl, script, rels H ns⟩
    · subst q
      simpa only [RelD] using r
  refine codeAny_mono ((F _ inB (hid nsg)).go callerA [] s₁ H _ [.ref a] [.ref a] _ _ rfl room env (bind s₁ (.ref a)) (.cons rfl .nil) told) fun r s2 q => ?_
  match r, q with
  | .ok (.ret u), ⟨v, H2, os, bare, un, hok2, r2, qv⟩ =>
    have qv : v = .bl true := qv
    subst qv
    obtain rfl : u = Value.bool true := r2
    refine ⟨rfl, OldK.of_keep fun b o e => ?_, os, bare⟩
    rcases only b with z | ⟨ob, xs, z⟩
    · exact un.keep b o e z (fun y => absurd (show b ∈ ([] : List Addr) from y) List.not_mem_nil) List.not_mem_nil
    · have z2 := un.frzs b ob _ z
      cases e.symm.trans (hok b _ z).1
      exact (hok2 b _ z2).1
  | .error e, q =>
    obtain ⟨_, _, _, _, _, _, _, _, _, _, _, _, z⟩ := q
    exact z.elim
/-- a law's end, as the head asks it -/
theorem law_ends {l : PySem.W.OpenLaw} {n k : Nat} {q : Program} {loose : List Str} {XP : (Str → Option Value) → Heap → Prop} {YP : World → Heap → Prop} {d : DefRec} {x : Str} (hn : l.most = some n) (hn2 : n ≤ sizeLine) (hdf : d.params.defaults = []) (room : Room k callerA)
    (F : ∀ (w : World) (mg : Str → Option Value) (fa : Addr) (h : Heap), YP w h → h.Ns mainGlobals mg → mg d.name = some (.ref fa) → ∃ (K : PySem.W.Frag) (fd : FuncData) (sp : DSp), K.In h ∧ (∀ (s : Shared) (u : Value), BindsTo s fd ⟨[u], []⟩ [(x, u)]) ∧
        (∀ ns : List Int, ns.length ≤ n → sp [.rol (ns.map D.int)] (fun _ => none) noX fun d _ => d = .bl true) ∧ ∀ base : Heap, K.In base → base.Ns mainGlobals mg → FnG l.prog w K mg base k fa fd [x] (liftSp K sp)) :
    PySem.W.WalkO q loose XP YP l.row.toRowW d [] (fun f vs => PySem.call f vs) := by
  refine Att.attach_call hn hdf fun w s₀ s₁ mg mb fa o pm cd doc a vs ns Gd Y ho hd hcd hmg hobj hints hlen hg => ?_
  obtain ⟨K, fd, sp, inK, hb, hsp, hF⟩ := F w mg fa _ Y Gd.T.g hmg
  exact law_end inK Gd.T.g Gd.T.b Gd.T.builtins Gd.T.nolimit hg hobj hints (Nat.le_trans hlen hn2) room hF hb (hsp ns hlen)
end Lit
/-! Readings, row by row, and the loops by a word that stays. -/
namespace Lit
open PySem PySem.Spec PyProof.Rows L2
section
variable {sps : List DSp} {ρ : Rho} {h : PH} {xq : XQ} {Q : D → PH → Prop} {R : Bool → PH → Prop} {A : List D → PH → Prop} {I : List D → (PH → Prop) → PH → Prop} {Z : DEnds}
@[simp] theorem rdE_var {i : Nat} : rdE sps (.var i) ρ h xq Q = (match ρ[i]? with | some (some d) => Q d h | _ => False) := by rw [rdE] <;> rfl
@[simp] theorem rdE_int {i : Int} : rdE sps (.int i) ρ h xq Q = (Q (.int i) h) := by rw [rdE] <;> rfl
@[simp] theorem rdE_bl {b : Bool} : rdE sps (.bl b) ρ h xq Q = (Q (.bl b) h) := by rw [rdE] <;> rfl
@[simp] theorem rdE_str {s : List Nat} : rdE sps (.str s) ρ h xq Q = (Q (.str s) h) := by rw [rdE] <;> rfl
@[simp] theorem rdE_non  : rdE sps (.non) ρ h xq Q = (Q .non h) := by rw [rdE] <;> rfl
@[simp] theorem rdE_gint {x : Str} {i : Int} : rdE sps (.gint x i) ρ h xq Q = (Q (.int i) h) := by rw [rdE] <;> rfl
@[simp] theorem rdE_gstr {x : Str} {s : List Nat} : rdE sps (.gstr x s) ρ h xq Q = (Q (.str s) h) := by rw [rdE] <;> rfl
@[simp] theorem rdE_op {o : BOp} {a b : E} : rdE sps (.op o a b) ρ h xq Q = (rdE sps a ρ h xq fun x h1 => rdE sps b ρ h1 xq fun y h2 => binD o x y h2 Q) := by rw [rdE] <;> rfl
@[simp] theorem rdE_neg {a : E} : rdE sps (.neg a) ρ h xq Q = (rdE sps a ρ h xq fun x h1 => match x with | .int i => Q (.int (-i)) h1 | _ => False) := by rw [rdE] <;> rfl
@[simp] theorem rdE_cmp {o : COp} {a b : E} : rdE sps (.cmp o a b) ρ h xq Q = (rdE sps a ρ h xq fun x h1 => rdE sps b ρ h1 xq fun y h2 => cmpD o x y h2 fun k => Q (.bl k) h2) := by rw [rdE] <;> rfl
@[simp] theorem rdE_chain {o o' : COp} {a b c : E} : rdE sps (.chain o o' a b c) ρ h xq Q = (rdE sps a ρ h xq fun x h1 => rdE sps b ρ h1 xq fun y h2 => cmpD o x y h2 fun k => match k with | true => rdE sps c ρ h2 xq fun z h3 => cmpD o' y z h3 fun k => Q (.bl k) h3 | false => Q (.bl false) h2) := by rw [rdE] <;> rfl
@[simp] theorem rdE_land {es : E} : rdE sps (.land es) ρ h xq Q = (rdAnd sps es ρ h xq Q) := by rw [rdE] <;> rfl
@[simp] theorem rdE_lor {es : E} : rdE sps (.lor es) ρ h xq Q = (rdOr sps es ρ h xq Q) := by rw [rdE] <;> rfl
@[simp] theorem rdE_lnot {a : E} : rdE sps (.lnot a) ρ h xq Q = (rdE sps a ρ h xq fun x h1 => truQ h1 x fun b => Q (.bl (!b)) h1) := by rw [rdE] <;> rfl
@[simp] theorem rdE_ife {t a b : E} : rdE sps (.ife t a b) ρ h xq Q = (rdT_ sps t ρ h xq fun k h1 => match k with | true => rdE sps a ρ h1 xq Q | false => rdE sps b ρ h1 xq Q) := by rw [rdE] <;> rfl
@[simp] theorem rdE_tup {es : E} : rdE sps (.tup es) ρ h xq Q = (rdA sps es ρ h xq fun ds h1 => ds.length ≤ sizeLine ∧ Q (.tup ds) h1) := by rw [rdE] <;> rfl
@[simp] theorem rdE_lst {es : E} : rdE sps (.lst es) ρ h xq Q = (rdA sps es ρ h xq fun ds h1 => ds.length ≤ sizeLine ∧ alloc (.lst ds) h1 Q) := by rw [rdE] <;> rfl
@[simp] theorem rdE_dic {es : E} : rdE sps (.dic es) ρ h xq Q = (rdA sps es ρ h xq fun ds h1 => match kvPairs ds with | some kvs => kvs.length ≤ 15 ∧ alloc (.dct (mergeD [] kvs)) h1 Q | none => False) := by rw [rdE] <;> rfl
@[simp] theorem rdE_ix {a i : E} : rdE sps (.ix a i) ρ h xq Q = (rdE sps a ρ h xq fun x h1 => rdE sps i ρ h1 xq fun y h2 => ixD x y h2 Q) := by rw [rdE] <;> rfl
@[simp] theorem rdE_sl {a lo hi : E} : rdE sps (.sl a lo hi) ρ h xq Q = (rdE sps a ρ h xq fun x h1 => rdO sps lo ρ h1 xq fun l h2 => rdO sps hi ρ h2 xq fun u h3 => slD x l u h3 Q) := by rw [rdE] <;> rfl
@[simp] theorem rdE_rev {a : E} : rdE sps (.rev a) ρ h xq Q = (rdE sps a ρ h xq fun x h1 => match rdL h1 x with | some ds => alloc (.lst ds.reverse) h1 Q | none => False) := by rw [rdE] <;> rfl
@[simp] theorem rdE_b1 {f : B1} {a : E} : rdE sps (.b1 f a) ρ h xq Q = (rdE sps a ρ h xq fun x h1 => b1D f x h1 Q) := by rw [rdE] <;> rfl
@[simp] theorem rdE_b2 {f : B2} {a b : E} : rdE sps (.b2 f a b) ρ h xq Q = (rdE sps a ρ h xq fun x h1 => rdE sps b ρ h1 xq fun y h2 => b2D f x y h2 Q) := by rw [rdE] <;> rfl
@[simp] theorem rdE_isi {a : E} {t : Ty} : rdE sps (.isi a t) ρ h xq Q = (rdE sps a ρ h xq fun x h1 => isData x h1 = true ∧ isiD t x h1 fun k => Q (.bl k) h1) := by rw [rdE] <;> rfl
@[simp] theorem rdE_mth {m : Mth} {o es : E} : rdE sps (.mth m o es) ρ h xq Q = (rdE sps o ρ h xq fun x h1 => tyB m x h1 = true ∧ rdA sps es ρ h1 xq fun ds h2 => mthD m x ds h2 Q) := by rw [rdE] <;> rfl
@[simp] theorem rdE_call {i : Nat} {es : E} : rdE sps (.call i es) ρ h xq Q = (rdA sps es ρ h xq fun ds h1 => spAt sps i ds h1 xq Q) := by rw [rdE] <;> rfl
@[simp] theorem rdE_comp {it : E} {tg : Tg} {vs : List Nat} {cond elt : E} : rdE sps (.comp it tg vs cond elt) ρ h xq Q = (rdI sps it ρ h xq fun items stay h1 => compLoop tg vs (rdC sps cond) (rdE sps elt) stay ρ items [] h1 fun acc h2 => alloc (.lst acc) h2 Q) := by rw [rdE] <;> rfl
@[simp] theorem rdT_land {es : E} : rdT_ sps (.land es) ρ h xq R = (rdAndT sps es ρ h xq R) := by rw [rdT_] <;> rfl
@[simp] theorem rdT_lor {es : E} : rdT_ sps (.lor es) ρ h xq R = (rdOrT sps es ρ h xq R) := by rw [rdT_] <;> rfl
@[simp] theorem rdT_lnot {a : E} : rdT_ sps (.lnot a) ρ h xq R = (rdT_ sps a ρ h xq fun k h1 => R (!k) h1) := by rw [rdT_] <;> rfl
@[simp] theorem rdT_cmp {o : COp} {a b : E} : rdT_ sps (.cmp o a b) ρ h xq R = (rdE sps a ρ h xq fun x h1 => rdE sps b ρ h1 xq fun y h2 => cmpD o x y h2 fun k => R k h2) := by rw [rdT_] <;> rfl
@[simp] theorem rdT_chain {o o' : COp} {a b c : E} : rdT_ sps (.chain o o' a b c) ρ h xq R = (rdE sps a ρ h xq fun x h1 => rdE sps b ρ h1 xq fun y h2 => cmpD o x y h2 fun k => match k with | true => rdE sps c ρ h2 xq fun z h3 => cmpD o' y z h3 fun k => R k h3 | false => R false h2) := by rw [rdT_] <;> rfl
@[simp] theorem rdT_var {i : Nat} : rdT_ sps (.var i) ρ h xq R = (rdE sps (.var i) ρ h xq fun x h1 => truQ h1 x fun k => R k h1) := by simp only [rdT_] <;> rfl
@[simp] theorem rdT_int {i : Int} : rdT_ sps (.int i) ρ h xq R = (rdE sps (.int i) ρ h xq fun x h1 => truQ h1 x fun k => R k h1) := by simp only [rdT_] <;> rfl
@[simp] theorem rdT_bl {b : Bool} : rdT_ sps (.bl b) ρ h xq R = (rdE sps (.bl b) ρ h xq fun x h1 => truQ h1 x fun k => R k h1) := by simp only [rdT_] <;> rfl
@[simp] theorem rdT_str {s : List Nat} : rdT_ sps (.str s) ρ h xq R = (rdE sps (.str s) ρ h xq fun x h1 => truQ h1 x fun k => R k h1) := by simp only [rdT_] <;> rfl
@[simp] theorem rdT_non  : rdT_ sps (.non) ρ h xq R = (rdE sps (.non) ρ h xq fun x h1 => truQ h1 x fun k => R k h1) := by simp only [rdT_] <;> rfl
@[simp] theorem rdT_gint {x : Str} {i : Int} : rdT_ sps (.gint x i) ρ h xq R = (rdE sps (.gint x i) ρ h xq fun x h1 => truQ h1 x fun k => R k h1) := by simp only [rdT_] <;> rfl
@[simp] theorem rdT_gstr {x : Str} {s : List Nat} : rdT_ sps (.gstr x s) ρ h xq R = (rdE sps (.gstr x s) ρ h xq fun x h1 => truQ h1 x fun k => R k h1) := by simp only [rdT_] <;> rfl
@[simp] theorem rdT_op {o : BOp} {a b : E} : rdT_ sps (.op o a b) ρ h xq R = (rdE sps (.op o a b) ρ h xq fun x h1 => truQ h1 x fun k => R k h1) := by simp only [rdT_] <;> rfl
@[simp] theorem rdT_neg {a : E} : rdT_ sps (.neg a) ρ h xq R = (rdE sps (.neg a) ρ h xq fun x h1 => truQ h1 x fun k => R k h1) := by simp only [rdT_] <;> rfl
@[simp] theorem rdT_tup {es : E} : rdT_ sps (.tup es) ρ h xq R = (rdE sps (.tup es) ρ h xq fun x h1 => truQ h1 x fun k => R k h1) := by simp only [rdT_] <;> rfl
@[simp] theorem rdT_lst {es : E} : rdT_ sps (.lst es) ρ h xq R = (rdE sps (.lst es) ρ h xq fun x h1 => truQ h1 x fun k => R k h1) := by simp only [rdT_] <;> rfl
@[simp] theorem rdT_dic {es : E} : rdT_ sps (.dic es) ρ h xq R = (rdE sps (.dic es) ρ h xq fun x h1 => truQ h1 x fun k => R k h1) := by simp only [rdT_] <;> rfl
@[simp] theorem rdT_ix {a i : E} : rdT_ sps (.ix a i) ρ h xq R = (rdE sps (.ix a i) ρ h xq fun x h1 => truQ h1 x fun k => R k h1) := by simp only [rdT_] <;> rfl
@[simp] theorem rdT_sl {a lo hi : E} : rdT_ sps (.sl a lo hi) ρ h xq R = (rdE sps (.sl a lo hi) ρ h xq fun x h1 => truQ h1 x fun k => R k h1) := by simp only [rdT_] <;> rfl
@[simp] theorem rdT_rev {a : E} : rdT_ sps (.rev a) ρ h xq R = (rdE sps (.rev a) ρ h xq fun x h1 => truQ h1 x fun k => R k h1) := by simp only [rdT_] <;> rfl
@[simp] theorem rdT_b1 {f : B1} {a : E} : rdT_ sps (.b1 f a) ρ h xq R = (rdE sps (.b1 f a) ρ h xq fun x h1 => truQ h1 x fun k => R k h1) := by simp only [rdT_] <;> rfl
@[simp] theorem rdT_b2 {f : B2} {a b : E} : rdT_ sps (.b2 f a b) ρ h xq R = (rdE sps (.b2 f a b) ρ h xq fun x h1 => truQ h1 x fun k => R k h1) := by simp only [rdT_] <;> rfl
@[simp] theorem rdT_isi {a : E} {t : Ty} : rdT_ sps (.isi a t) ρ h xq R = (rdE sps (.isi a t) ρ h xq fun x h1 => truQ h1 x fun k => R k h1) := by simp only [rdT_] <;> rfl
@[simp] theorem rdT_mth {m : Mth} {o es : E} : rdT_ sps (.mth m o es) ρ h xq R = (rdE sps (.mth m o es) ρ h xq fun x h1 => truQ h1 x fun k => R k h1) := by simp only [rdT_] <;> rfl
@[simp] theorem rdT_call {i : Nat} {es : E} : rdT_ sps (.call i es) ρ h xq R = (rdE sps (.call i es) ρ h xq fun x h1 => truQ h1 x fun k => R k h1) := by simp only [rdT_] <;> rfl
@[simp] theorem rdT_comp {it : E} {tg : Tg} {vs : List Nat} {cond elt : E} : rdT_ sps (.comp it tg vs cond elt) ρ h xq R = (rdE sps (.comp it tg vs cond elt) ρ h xq fun x h1 => truQ h1 x fun k => R k h1) := by simp only [rdT_] <;> rfl
@[simp] theorem rdT_fld {c : Str} {o : E} {f : Str} : rdT_ sps (.fld c o f) ρ h xq R = (rdE sps (.fld c o f) ρ h xq fun x h1 => truQ h1 x fun k => R k h1) := by simp only [rdT_] <;> rfl
@[simp] theorem rdT_meth {i : Nat} {o es : E} : rdT_ sps (.meth i o es) ρ h xq R = (rdE sps (.meth i o es) ρ h xq fun x h1 => truQ h1 x fun k => R k h1) := by simp only [rdT_] <;> rfl
@[simp] theorem rdAnd_one {a : E} : rdAnd sps (.cons a .nil) ρ h xq Q = rdE sps a ρ h xq Q := by rw [rdAnd]
@[simp] theorem rdAnd_cons {a b r : E} : rdAnd sps (.cons a (.cons b r)) ρ h xq Q = (rdE sps a ρ h xq fun x h1 => truQ h1 x fun k => match k with | true => rdAnd sps (.cons b r) ρ h1 xq Q | false => Q x h1) := by simp only [rdAnd] <;> rfl
@[simp] theorem rdOr_one {a : E} : rdOr sps (.cons a .nil) ρ h xq Q = rdE sps a ρ h xq Q := by rw [rdOr]
@[simp] theorem rdOr_cons {a b r : E} : rdOr sps (.cons a (.cons b r)) ρ h xq Q = (rdE sps a ρ h xq fun x h1 => truQ h1 x fun k => match k with | true => Q x h1 | false => rdOr sps (.cons b r) ρ h1 xq Q) := by simp only [rdOr] <;> rfl
@[simp] theorem rdAndT_one {a : E} : rdAndT sps (.cons a .nil) ρ h xq R = rdT_ sps a ρ h xq R := by rw [rdAndT]
@[simp] theorem rdAndT_cons {a b r : E} : rdAndT sps (.cons a (.cons b r)) ρ h xq R = (rdT_ sps a ρ h xq fun k h1 => match k with | true => rdAndT sps (.cons b r) ρ h1 xq R | false => R false h1) := by simp only [rdAndT] <;> rfl
@[simp] theorem rdOrT_one {a : E} : rdOrT sps (.cons a .nil) ρ h xq R = rdT_ sps a ρ h xq R := by rw [rdOrT]
@[simp] theorem rdOrT_cons {a b r : E} : rdOrT sps (.cons a (.cons b r)) ρ h xq R = (rdT_ sps a ρ h xq fun k h1 => match k with | true => R true h1 | false => rdOrT sps (.cons b r) ρ h1 xq R) := by simp only [rdOrT] <;> rfl
@[simp] theorem rdA_nil : rdA sps .nil ρ h xq A = A [] h := by rw [rdA]
@[simp] theorem rdA_cons {a r : E} : rdA sps (.cons a r) ρ h xq A = (rdE sps a ρ h xq fun x h1 => rdA sps r ρ h1 xq fun xs h2 => A (x :: xs) h2) := by rw [rdA]
@[simp] theorem rdO_nil {O : Option Int → PH → Prop} : rdO sps .nil ρ h xq O = O none h := by rw [rdO]
@[simp] theorem rdO_var {i : Nat} {O : Option Int → PH → Prop} : rdO sps (.var i) ρ h xq O = (rdE sps (.var i) ρ h xq fun x h1 => match x with | .int i => O (some i) h1 | _ => False) := by simp only [rdO] <;> rfl
@[simp] theorem rdO_int {i : Int} {O : Option Int → PH → Prop} : rdO sps (.int i) ρ h xq O = (rdE sps (.int i) ρ h xq fun x h1 => match x with | .int i => O (some i) h1 | _ => False) := by simp only [rdO] <;> rfl
@[simp] theorem rdO_bl {b : Bool} {O : Option Int → PH → Prop} : rdO sps (.bl b) ρ h xq O = (rdE sps (.bl b) ρ h xq fun x h1 => match x with | .int i => O (some i) h1 | _ => False) := by simp only [rdO] <;> rfl
@[simp] theorem rdO_str {s : List Nat} {O : Option Int → PH → Prop} : rdO sps (.str s) ρ h xq O = (rdE sps (.str s) ρ h xq fun x h1 => match x with | .int i => O (some i) h1 | _ => False) := by simp only [rdO] <;> rfl
@[simp] theorem rdO_non  {O : Option Int → PH → Prop} : rdO sps (.non) ρ h xq O = (rdE sps (.non) ρ h xq fun x h1 => match x with | .int i => O (some i) h1 | _ => False) := by simp only [rdO] <;> rfl
@[simp] theorem rdO_gint {x : Str} {i : Int} {O : Option Int → PH → Prop} : rdO sps (.gint x i) ρ h xq O = (rdE sps (.gint x i) ρ h xq fun x h1 => match x with | .int i => O (some i) h1 | _ => False) := by simp only [rdO] <;> rfl
@[simp] theorem rdO_gstr {x : Str} {s : List Nat} {O : Option Int → PH → Prop} : rdO sps (.gstr x s) ρ h xq O = (rdE sps (.gstr x s) ρ h xq fun x h1 => match x with | .int i => O (some i) h1 | _ => False) := by simp only [rdO] <;> rfl
@[simp] theorem rdO_op {o : BOp} {a b : E} {O : Option Int → PH → Prop} : rdO sps (.op o a b) ρ h xq O = (rdE sps (.op o a b) ρ h xq fun x h1 => match x with | .int i => O (some i) h1 | _ => False) := by simp only [rdO] <;> rfl
@[simp] theorem rdO_neg {a : E} {O : Option Int → PH → Prop} : rdO sps (.neg a) ρ h xq O = (rdE sps (.neg a) ρ h xq fun x h1 => match x with | .int i => O (some i) h1 | _ => False) := by simp only [rdO] <;> rfl
@[simp] theorem rdO_cmp {o : COp} {a b : E} {O : Option Int → PH → Prop} : rdO sps (.cmp o a b) ρ h xq O = (rdE sps (.cmp o a b) ρ h xq fun x h1 => match x with | .int i => O (some i) h1 | _ => False) := by simp only [rdO] <;> rfl
@[simp] theorem rdO_chain {o o' : COp} {a b c : E} {O : Option Int → PH → Prop} : rdO sps (.chain o o' a b c) ρ h xq O = (rdE sps (.chain o o' a b c) ρ h xq fun x h1 => match x with | .int i => O (some i) h1 | _ => False) := by simp only [rdO] <;> rfl
@[simp] theorem rdO_land {es : E} {O : Option Int → PH → Prop} : rdO sps (.land es) ρ h xq O = (rdE sps (.land es) ρ h xq fun x h1 => match x with | .int i => O (some i) h1 | _ => False) := by simp only [rdO] <;> rfl
@[simp] theorem rdO_lor {es : E} {O : Option Int → PH → Prop} : rdO sps (.lor es) ρ h xq O = (rdE sps (.lor es) ρ h xq fun x h1 => match x with | .int i => O (some i) h1 | _ => False) := by simp only [rdO] <;> rfl
@[simp] theorem rdO_lnot {a : E} {O : Option Int → PH → Prop} : rdO sps (.lnot a) ρ h xq O = (rdE sps (.lnot a) ρ h xq fun x h1 => match x with | .int i => O (some i) h1 | _ => False) := by simp only [rdO] <;> rfl
@[simp] theorem rdO_ife {t a b : E} {O : Option Int → PH → Prop} : rdO sps (.ife t a b) ρ h xq O = (rdE sps (.ife t a b) ρ h xq fun x h1 => match x with | .int i => O (some i) h1 | _ => False) := by simp only [rdO] <;> rfl
@[simp] theorem rdO_tup {es : E} {O : Option Int → PH → Prop} : rdO sps (.tup es) ρ h xq O = (rdE sps (.tup es) ρ h xq fun x h1 => match x with | .int i => O (some i) h1 | _ => False) := by simp only [rdO] <;> rfl
@[simp] theorem rdO_lst {es : E} {O : Option Int → PH → Prop} : rdO sps (.lst es) ρ h xq O = (rdE sps (.lst es) ρ h xq fun x h1 => match x with | .int i => O (some i) h1 | _ => False) := by simp only [rdO] <;> rfl
@[simp] theorem rdO_dic {es : E} {O : Option Int → PH → Prop} : rdO sps (.dic es) ρ h xq O = (rdE sps (.dic es) ρ h xq fun x h1 => match x with | .int i => O (some i) h1 | _ => False) := by simp only [rdO] <;> rfl
@[simp] theorem rdO_ix {a i : E} {O : Option Int → PH → Prop} : rdO sps (.ix a i) ρ h xq O = (rdE sps (.ix a i) ρ h xq fun x h1 => match x with | .int i => O (some i) h1 | _ => False) := by simp only [rdO] <;> rfl
@[simp] theorem rdO_sl {a lo hi : E} {O : Option Int → PH → Prop} : rdO sps (.sl a lo hi) ρ h xq O = (rdE sps (.sl a lo hi) ρ h xq fun x h1 => match x with | .int i => O (some i) h1 | _ => False) := by simp only [rdO] <;> rfl
@[simp] theorem rdO_rev {a : E} {O : Option Int → PH → Prop} : rdO sps (.rev a) ρ h xq O = (rdE sps (.rev a) ρ h xq fun x h1 => match x with | .int i => O (some i) h1 | _ => False) := by simp only [rdO] <;> rfl
@[simp] theorem rdO_b1 {f : B1} {a : E} {O : Option Int → PH → Prop} : rdO sps (.b1 f a) ρ h xq O = (rdE sps (.b1 f a) ρ h xq fun x h1 => match x with | .int i => O (some i) h1 | _ => False) := by simp only [rdO] <;> rfl
@[simp] theorem rdO_b2 {f : B2} {a b : E} {O : Option Int → PH → Prop} : rdO sps (.b2 f a b) ρ h xq O = (rdE sps (.b2 f a b) ρ h xq fun x h1 => match x with | .int i => O (some i) h1 | _ => False) := by simp only [rdO] <;> rfl
@[simp] theorem rdO_isi {a : E} {t : Ty} {O : Option Int → PH → Prop} : rdO sps (.isi a t) ρ h xq O = (rdE sps (.isi a t) ρ h xq fun x h1 => match x with | .int i => O (some i) h1 | _ => False) := by simp only [rdO] <;> rfl
@[simp] theorem rdO_mth {m : Mth} {o es : E} {O : Option Int → PH → Prop} : rdO sps (.mth m o es) ρ h xq O = (rdE sps (.mth m o es) ρ h xq fun x h1 => match x with | .int i => O (some i) h1 | _ => False) := by simp only [rdO] <;> rfl
@[simp] theorem rdO_call {i : Nat} {es : E} {O : Option Int → PH → Prop} : rdO sps (.call i es) ρ h xq O = (rdE sps (.call i es) ρ h xq fun x h1 => match x with | .int i => O (some i) h1 | _ => False) := by simp only [rdO] <;> rfl
@[simp] theorem rdO_comp {it : E} {tg : Tg} {vs : List Nat} {cond elt : E} {O : Option Int → PH → Prop} : rdO sps (.comp it tg vs cond elt) ρ h xq O = (rdE sps (.comp it tg vs cond elt) ρ h xq fun x h1 => match x with | .int i => O (some i) h1 | _ => False) := by simp only [rdO] <;> rfl
@[simp] theorem rdC_nil : rdC sps .nil ρ h xq R = R true h := by rw [rdC]
@[simp] theorem rdC_one {a : E} : rdC sps (.cons a .nil) ρ h xq R = rdT_ sps a ρ h xq R := by rw [rdC]
@[simp] theorem rdI_itL {e : E} : rdI sps (.itL e) ρ h xq I = (rdE sps e ρ h xq fun x h1 => match x with | .tup ds => I ds (fun _ => True) h1 | .str s => I (s.map fun c => .str [c]) (fun _ => True) h1 | x => match rdL h1 x with | some ds => I ds (fun h' => rdL h' x = some ds) h1 | none => False) := by rw [rdI] <;> rfl
@[simp] theorem rdI_itR1 {e : E} : rdI sps (.itR1 e) ρ h xq I = (rdE sps e ρ h xq fun x h1 => match x with | .int j => -(2 ^ 62) ≤ j ∧ j < 2 ^ 62 ∧ I (natsD j.toNat) (fun _ => True) h1 | _ => False) := by rw [rdI] <;> rfl
@[simp] theorem rdI_itR2 {a b : E} : rdI sps (.itR2 a b) ρ h xq I = (rdE sps a ρ h xq fun x h1 => rdE sps b ρ h1 xq fun y h2 => match x, y with | .int i, .int j => (-(2 ^ 62) ≤ i ∧ i < 2 ^ 62 ∧ -(2 ^ 62) ≤ j ∧ j < 2 ^ 62) ∧ I ((List.range (j - i).toNat).map fun k : Nat => D.int (i + (k : Int))) (fun _ => True) h2 | _, _ => False) := by rw [rdI] <;> rfl
@[simp] theorem rdI_itEL {e : E} : rdI sps (.itEL e) ρ h xq I = (rdE sps e ρ h xq fun x h1 => match rdL h1 x with | some ds => I (pairsD (natsD ds.length) ds) (fun h' => rdL h' x = some ds) h1 | none => False) := by rw [rdI] <;> rfl
@[simp] theorem rdS_expr {e : E} : rdS sps (.expr e) Z ρ h = (rdE sps e ρ h (Z.xq ρ) fun _ h1 => Z.nx ρ h1) := by simp only [rdS] <;> rfl
@[simp] theorem rdS_set {tg : Tg} {e : E} : rdS sps (.set tg e) Z ρ h = (rdE sps e ρ h (Z.xq ρ) fun x h1 => match asg tg x ρ with | some ρ1 => Z.nx ρ1 h1 | none => False) := by simp only [rdS] <;> rfl
@[simp] theorem rdS_setC {i : Nat} {e : E} : rdS sps (.setC i e) Z ρ h = (rdE sps e ρ h (Z.xq ρ) fun x h1 => Z.nx (ρ.set i (some x)) h1) := by simp only [rdS] <;> rfl
@[simp] theorem rdS_setI {o i e : E} : rdS sps (.setI o i e) Z ρ h = (rdE sps e ρ h (Z.xq ρ) fun y h1 => rdE sps o ρ h1 (Z.xq ρ) fun x h2 => rdE sps i ρ h2 (Z.xq ρ) fun k h3 => setD x k y h3 fun h4 => Z.nx ρ h4) := by simp only [rdS] <;> rfl
@[simp] theorem rdS_par2 {i j : Nat} {a b : E} : rdS sps (.par2 i j a b) Z ρ h = (rdE sps a ρ h (Z.xq ρ) fun x h1 => rdE sps b ρ h1 (Z.xq ρ) fun y h2 => Z.nx ((ρ.set i (some x)).set j (some y)) h2) := by simp only [rdS] <;> rfl
@[simp] theorem rdS_par3 {i j l : Nat} {a b c : E} : rdS sps (.par3 i j l a b c) Z ρ h = (rdE sps a ρ h (Z.xq ρ) fun x h1 => rdE sps b ρ h1 (Z.xq ρ) fun y h2 => rdE sps c ρ h2 (Z.xq ρ) fun z h3 => Z.nx (((ρ.set i (some x)).set j (some y)).set l (some z)) h3) := by simp only [rdS] <;> rfl
@[simp] theorem rdS_aug {i : Nat} {e : E} : rdS sps (.aug i e) Z ρ h = (match ρ[i]? with | some (some x) => rdE sps e ρ h (Z.xq ρ) fun y h1 => (match x, y with | .int a, .int b => Z.nx (ρ.set i (some (.int (a + b)))) h1 | _, _ => False) | _ => False) := by simp only [rdS] <;> rfl
@[simp] theorem rdS_ret {e : E} : rdS sps (.ret e) Z ρ h = (rdE sps e ρ h (Z.xq ρ) Z.rt) := by simp only [rdS] <;> rfl
@[simp] theorem rdS_retN  : rdS sps (.retN) Z ρ h = (Z.rt .non h) := by simp only [rdS] <;> rfl
@[simp] theorem rdS_ife {t : E} {a b : S} : rdS sps (.ife t a b) Z ρ h = (rdT_ sps t ρ h (Z.xq ρ) fun k h1 => match k with | true => rdS sps a Z ρ h1 | false => rdS sps b Z ρ h1) := by simp only [rdS] <;> rfl
@[simp] theorem rdS_whl {t : E} {b : S} : rdS sps (.whl t b) Z ρ h = (∃ n, whileN (rdT_ sps t) (rdS sps b) n Z ρ h) := by simp only [rdS] <;> rfl
@[simp] theorem rdS_for_ {it : E} {tg : Tg} {b : S} : rdS sps (.for_ it tg b) Z ρ h = (rdI sps it ρ h (Z.xq ρ) fun items stay h1 => forLoop tg (rdS sps b) stay items Z ρ h1) := by simp only [rdS] <;> rfl
@[simp] theorem rdS_brk  : rdS sps (.brk) Z ρ h = (Z.bk ρ h) := by simp only [rdS] <;> rfl
@[simp] theorem rdS_cont  : rdS sps (.cont) Z ρ h = (Z.ct ρ h) := by simp only [rdS] <;> rfl
@[simp] theorem rdS_pass  : rdS sps (.pass) Z ρ h = (Z.nx ρ h) := by simp only [rdS] <;> rfl
@[simp] theorem rdS_nil  : rdS sps (.nil) Z ρ h = (Z.nx ρ h) := by simp only [rdS] <;> rfl
@[simp] theorem rdS_cons {a b : S} : rdS sps (.cons a b) Z ρ h = (rdS sps a { Z with nx := rdS sps b Z } ρ h) := by simp only [rdS] <;> rfl
end
theorem Ext.refl {h : PH} : Ext h h := fun _ _ e => e
theorem Ext.trans {h h1 h2 : PH} (a : Ext h h1) (b : Ext h1 h2) : Ext h h2 := fun c u e => b c u (a c u e)
theorem ExtBut.refl {a : Addr} {h : PH} : ExtBut a h h := fun _ _ _ e => e
theorem ExtBut.trans {a : Addr} {h h1 h2 : PH} (p : ExtBut a h h1) (q : ExtBut a h1 h2) : ExtBut a h h2 := fun c u n e => q c u n (p c u n e)
theorem Ext.but {a : Addr} {h h1 : PH} (p : Ext h h1) : ExtBut a h h1 := fun c u _ e => p c u e
/-- a place new behind h is none of h's -/
theorem Ext.new {h h1 : PH} {p q : Addr} {o : PO} (e : Ext h h1) (n : h1 p = none) (t : h q = some o) : q ≠ p := fun z => by
  have := e q o t
  rw [z, n] at this
  cases this
theorem ne_of {h : PH} {p q : Addr} {o : PO} (n : h p = none) (t : h q = some o) : q ≠ p := fun z => by
  rw [z, n] at t
  cases t
/-- a comprehension whose turns give what f says -/
theorem compLoop_map {tg : Tg} {vs : List Nat} {cond : RT} {elt : RE} {stay : PH → Prop} {ρ : Rho} {Q : List D → PH → Prop} (f : D → Option D) (Iv : PH → Prop) (hs : ∀ h, Iv h → stay h) :
    ∀ (ds acc : List D) (h : PH), (∀ d ∈ ds, ∀ h, Iv h → ∃ ρ1, asg tg d (wipeR ρ vs) = some ρ1 ∧ ∀ P : Option D → PH → Prop, (∀ h', Iv h' → P (f d) h') → cond ρ1 h noX fun b h1 => match b with
      | true => elt ρ1 h1 noX fun y h2 => P (some y) h2
      | false => P none h1) → acc.length + ds.length ≤ sizeLine → Iv h → (∀ h', Iv h' → Q (acc ++ ds.filterMap f) h') → compLoop tg vs cond elt stay ρ ds acc h Q
  | [], acc, h, _, _, iv, q => by
    simp only [compLoop]
    simpa using q h iv
  | d :: ds, acc, h, step, len, iv, q => by
    obtain ⟨ρ1, e, turn⟩ := step d (by simp) h iv
    simp only [compLoop, e]
    simp only [List.length_cons] at len
    have tr := turn (fun o h' => match o with
      | some y => acc.length < sizeLine ∧ stay h' ∧ compLoop tg vs cond elt stay ρ ds (acc ++ [y]) h' Q
      | none => stay h' ∧ compLoop tg vs cond elt stay ρ ds acc h' Q) ?_
    · exact tr
    · intro h' iv'
      cases ef : f d with
      | none =>
        refine ⟨hs h' iv', compLoop_map f Iv hs ds acc h' (fun d' hd => step d' (by simp [hd])) (by omega) iv' fun h2 iv2 => ?_⟩
        have := q h2 iv2
        rwa [List.filterMap_cons_none ef] at this
      | some y =>
        refine ⟨by omega, hs h' iv', compLoop_map f Iv hs ds (acc ++ [y]) h' (fun d' hd => step d' (by simp [hd])) (by simp only [List.length_append, List.length_cons, List.length_nil]; omega) iv' fun h2 iv2 => ?_⟩
        have := q h2 iv2
        rw [List.filterMap_cons_some ef] at this
        simpa using this
/-- a for by a word about what is left -/
theorem forLoop_inv {tg : Tg} {b : RS} {stay : PH → Prop} {Z : DEnds} (Pv : List D → Rho → PH → Prop) (hs : ∀ ds ρ h, Pv ds ρ h → stay h)
    (step : ∀ d ds ρ h, Pv (d :: ds) ρ h → ∃ ρ1, asg tg d ρ = some ρ1 ∧ ∀ N : Rho → PH → Prop, (∀ ρ' h', Pv ds ρ' h' → N ρ' h') → b { Z with nx := N, ct := N, bk := Z.nx } ρ1 h)
    (fin : ∀ ρ h, Pv [] ρ h → Z.nx ρ h) : ∀ (ds : List D) (ρ : Rho) (h : PH), Pv ds ρ h → forLoop tg b stay ds Z ρ h
  | [], ρ, h, p => by
    simp only [forLoop]
    exact fin ρ h p
  | d :: ds, ρ, h, p => by
    obtain ⟨ρ1, e, st⟩ := step d ds ρ h p
    simp only [forLoop, e]
    exact st _ fun ρ' h' p' => ⟨hs ds ρ' h' p', forLoop_inv Pv hs step fin ds ρ' h' p'⟩
/-- a while by a word and a measure -/
theorem whileN_inv {t : RT} {b : RS} {Z : DEnds} (Pv : Rho → PH → Prop) (μ : Rho → PH → Nat)
    (step : ∀ ρ h, Pv ρ h → ∀ N : Rho → PH → Prop, (∀ ρ' h', Pv ρ' h' → μ ρ' h' < μ ρ h → N ρ' h') → t ρ h (Z.xq ρ) fun k h1 => match k with
      | true => b { Z with nx := N, ct := N, bk := Z.nx } ρ h1
      | false => Z.nx ρ h1) : ∀ (n : Nat) (ρ : Rho) (h : PH), Pv ρ h → μ ρ h < n → whileN t b n Z ρ h
  | 0, ρ, h, _, l => absurd l (Nat.not_lt_zero _)
  | n + 1, ρ, h, p, l => by
    show t ρ h (Z.xq ρ) fun k h1 => match k with
      | true => b { Z with nx := whileN t b n Z, ct := whileN t b n Z, bk := Z.nx } ρ h1
      | false => Z.nx ρ h1
    exact step ρ h p _ fun ρ' h' p' l' => whileN_inv Pv μ step n ρ' h' p' (by omega)
/-! ### operators at told kinds -/
section
variable {h : PH} {Q : D → PH → Prop} {R : Bool → Prop} {i j : Int} {a b : List Nat} {as bs : List D} {p q : Addr}
@[simp] theorem bin_addI : binD .add (.int i) (.int j) h Q = Q (.int (i + j)) h := rfl
@[simp] theorem bin_addS : binD .add (.str a) (.str b) h Q = (a.length + b.length ≤ sizeLine ∧ Q (.str (a ++ b)) h) := rfl
@[simp] theorem bin_addT : binD .add (.tup as) (.tup bs) h Q = (as.length + bs.length ≤ sizeLine ∧ Q (.tup (as ++ bs)) h) := rfl
@[simp] theorem bin_subI : binD .sub (.int i) (.int j) h Q = Q (.int (i - j)) h := rfl
@[simp] theorem bin_mulI : binD .mul (.int i) (.int j) h Q = (CMul i j ∧ Q (.int (i * j)) h) := rfl
@[simp] theorem bin_mulS : binD .mul (.str a) (.int i) h Q = (1 ≤ i ∧ i ≤ 10000 ∧ 0 < a.length ∧ a.length ≤ 100 ∧ Q (.str (List.replicate i.toNat a).flatten) h) := rfl
@[simp] theorem bin_fdiv : binD .fdiv (.int i) (.int j) h Q = (CDiv i j ∧ Q (.int (i / j)) h) := rfl
@[simp] theorem bin_mod : binD .mod (.int i) (.int j) h Q = (0 < j ∧ Q (.int (i % j)) h) := rfl
@[simp] theorem bin_pow : binD .pow (.int i) (.int j) h Q = (CPow i j ∧ Q (.int (i ^ j.toNat)) h) := rfl
theorem bin_addL (ha : h p = some (.lst as)) (hb : h q = some (.lst bs)) : binD .add (.ref p) (.ref q) h Q = (as.length + bs.length ≤ sizeLine ∧ alloc (.lst (as ++ bs)) h Q) := by
  simp only [binD, rdM, ha, hb]
@[simp] theorem cmp_eqI : cmpD .eq (.int i) (.int j) h R = R (decide (i = j)) := rfl
@[simp] theorem cmp_eqS : cmpD .eq (.str a) (.str b) h R = R (decide (a = b)) := rfl
@[simp] theorem cmp_neI : cmpD .ne (.int i) (.int j) h R = R (!decide (i = j)) := rfl
@[simp] theorem cmp_neS : cmpD .ne (.str a) (.str b) h R = R (!decide (a = b)) := rfl
@[simp] theorem cmp_lt : cmpD .lt (.int i) (.int j) h R = R (decide (i < j)) := rfl
@[simp] theorem cmp_le : cmpD .le (.int i) (.int j) h R = R (decide (i ≤ j)) := rfl
@[simp] theorem cmp_gt : cmpD .gt (.int i) (.int j) h R = R (decide (j < i)) := rfl
@[simp] theorem cmp_ge : cmpD .ge (.int i) (.int j) h R = R (decide (j ≤ i)) := rfl
@[simp] theorem cmp_isN {x : D} : cmpD .is x .non h R = R (noneD x) := rfl
@[simp] theorem cmp_isnotN {x : D} : cmpD .isnot x .non h R = R (!noneD x) := rfl
@[simp] theorem cmp_inS {c : Nat} : cmpD .isin (.str [c]) (.str b) h R = R (decide (c ∈ b)) := rfl
@[simp] theorem cmp_notinS {c : Nat} : cmpD .notin (.str [c]) (.str b) h R = R (!decide (c ∈ b)) := rfl
@[simp] theorem tru_bl {k : Bool} : truQ h (.bl k) R = R k := rfl
@[simp] theorem tru_non : truQ h .non R = R false := rfl
@[simp] theorem tru_int : truQ h (.int i) R = R (decide (i ≠ 0)) := rfl
@[simp] theorem tru_str : truQ h (.str a) R = (a.length ≤ sizeLine ∧ R (!a.isEmpty)) := rfl
@[simp] theorem tru_tup : truQ h (.tup as) R = R (!as.isEmpty) := rfl
theorem tru_lst (e : h p = some (.lst as)) : truQ h (.ref p) R = R (!as.isEmpty) := by simp only [truQ, rdQ, rdL, e]
@[simp] theorem asg_nm {i : Nat} {d : D} {ρ : Rho} : asg (.nm i) d ρ = some (ρ.set i (some d)) := by simp only [asg]
@[simp] theorem asg_tup {l : Tg} {ρ : Rho} : asg (.tup l) (.tup as) ρ = asgs l as ρ := by simp only [asg]
@[simp] theorem asgs_nil {ρ : Rho} : asgs .nil [] ρ = some ρ := by simp only [asgs]
@[simp] theorem asgs_cons {t l : Tg} {d : D} {ρ : Rho} : asgs (.cons t l) (d :: as) ρ = (match asg t d ρ with
    | some ρ' => asgs l as ρ'
    | none => none) := by simp only [asgs] <;> rfl
theorem sz : sizeLine = 16777216 := rfl
end

end Lit
/-! The drawing defs that many laws share. -/
namespace Lit
open PySem PySem.Spec PyProof.Rows L2
theorem spAt_ok {sps : List DSp} {i : Nat} {sp : DSp} {ds : List D} {h : PH} {xq : XQ} {Q : D → PH → Prop} (e : sps[i]? = some sp) (q : sp ds h xq Q) : spAt sps i ds h xq Q := by
  simp only [spAt, e]
  exact .of q
def spMixed : DSp := fun ds h _ Q => ∃ c k : Int, ds = [.int c, .int k] ∧ 0 ≤ k ∧ k < 2 ^ 50 ∧ ∀ r : Int, 0 ≤ r → r < 2147483647 → Q (.int r) h
def E_mixed : S := .cons (.set (.nm 0) (.op .add (.op .add (.op .mod (.var 0) (.int 1000000007)) (.op .mul (.int 7919) (.var 1))) (.int 13))) (.cons (.ret (.op .mod (.op .mul (.op .mod (.op .mul (.var 0) (.var 0)) (.int 1000000007)) (.int 48271)) (.int 2147483647))) .nil)
theorem cmul_of {i j : Int} (h1 : -(2 ^ 64) < i) (h2 : i < 2 ^ 64) : CMul i j := .inl ⟨h1, h2⟩
theorem b_mixed (sps : List DSp) (ds h xq Q) (q : spMixed ds h xq Q) : rdS sps E_mixed { nx := fun _ h' => Q .non h', rt := Q, xq := fun _ => xq } (startD 2 ds) h := by
  obtain ⟨c, k, rfl, h1, h2, hQ⟩ := q
  have a1 := Int.emod_nonneg c (show (1000000007 : Int) ≠ 0 by decide)
  have a2 := Int.emod_lt_of_pos c (show (0 : Int) < 1000000007 by decide)
  have b1 := Int.emod_nonneg ((c % 1000000007 + 7919 * k + 13) * (c % 1000000007 + 7919 * k + 13)) (show (1000000007 : Int) ≠ 0 by decide)
  have b2 := Int.emod_lt_of_pos ((c % 1000000007 + 7919 * k + 13) * (c % 1000000007 + 7919 * k + 13)) (show (0 : Int) < 1000000007 by decide)
  simp [E_mixed, startD]
  refine ⟨cmul_of (by decide) (by decide), cmul_of (by omega) (by omega), cmul_of (by omega) (by omega), ?_⟩
  exact hQ _ (Int.emod_nonneg _ (by decide)) (Int.emod_lt_of_pos _ (by decide))
/-- a drawing state, its turns at most n -/
def St (n : Int) (h : PH) (p : Addr) : Prop := ∃ l s t : Int, h p = some (.dct [(.str [108, 101, 102, 116], .int l), (.str [115, 101, 101, 100], .int s), (.str [116, 117, 114, 110, 115], .int t)]) ∧ 0 ≤ l ∧ 0 ≤ t ∧ t ≤ n
def E_draw : S := .cons (.ret (.dic (.cons (.str [108, 101, 102, 116]) (.cons (.ife (.cmp .ge (.var 0) (.op .pow (.int 10) (.int 18))) (.var 0) (.int 0)) (.cons (.str [115, 101, 101, 100]) (.cons (.call 0 (.cons (.var 0) (.cons (.var 1) .nil))) (.cons (.str [116, 117, 114, 110, 115]) (.cons (.var 1) .nil)))))))) .nil
def spDraw : DSp := fun ds h _ Q => ∃ c k : Int, ds = [.int c, .int k] ∧ 0 ≤ k ∧ k < 2 ^ 50 ∧ ∀ p h', h p = none → St k h' p → Ext h h' → Q (.ref p) h'
theorem b_draw (sps : List DSp) (e : sps[0]? = some spMixed) (ds h xq Q) (q : spDraw ds h xq Q) : rdS sps E_draw { nx := fun _ h' => Q .non h', rt := Q, xq := fun _ => xq } (startD 2 ds) h := by
  obtain ⟨c, k, rfl, h1, h2, hQ⟩ := q
  have go : ∀ l : Int, 0 ≤ l → spAt sps 0 [.int c, .int k] h xq fun y h2 => alloc (.dct (mergeD [] [(.str [108, 101, 102, 116], .int l), (.str [115, 101, 101, 100], y), (.str [116, 117, 114, 110, 115], .int k)])) h2 Q := fun l hl => by
    refine spAt_ok e ⟨c, k, rfl, h1, h2, fun r hr hr2 p h' n e' x => hQ p h' n ⟨l, r, k, e', hl, h1, by omega⟩ x⟩
  simp [E_draw, startD, kvPairs]
  refine ⟨⟨by decide, by decide, by decide⟩, ?_⟩
  by_cases z : (1000000000000000000 : Int) ≤ c
  · simp [z]
    exact go c (by omega)
  · simp [z]
    exact go 0 (by omega)

abbrev dL : List Nat := [108, 101, 102, 116]
abbrev dS : List Nat := [115, 101, 101, 100]
abbrev dT : List Nat := [116, 117, 114, 110, 115]
abbrev stO (l s t : D) : PO := .dct [(.str dL, l), (.str dS, s), (.str dT, t)]
section
variable {h : PH} {p : Addr} {l s t v : D} {Q : D → PH → Prop} {R : PH → Prop}
theorem ixL (e : h p = some (stO l s t)) : ixD (.ref p) (.str dL) h Q = Q l h := by simp [ixD, e, keyOk, getD?, eqK, eqF]
theorem ixS (e : h p = some (stO l s t)) : ixD (.ref p) (.str dS) h Q = Q s h := by simp [ixD, e, keyOk, getD?, eqK, eqF]
theorem ixT (e : h p = some (stO l s t)) : ixD (.ref p) (.str dT) h Q = Q t h := by simp [ixD, e, keyOk, getD?, eqK, eqF]
theorem setL (e : h p = some (stO l s t)) : setD (.ref p) (.str dL) v h R = put p (stO v s t) h R := by simp [setD, e, keyOk, likeKeys, setKV, eqK, eqF, sz]
theorem setT (e : h p = some (stO l s t)) : setD (.ref p) (.str dT) v h R = put p (stO l s v) h R := by simp [setD, e, keyOk, likeKeys, setKV, eqK, eqF, sz]
end
def E_digitIf : S := .cons (.setI (.var 0) (.str dT) (.op .add (.ix (.var 0) (.str dT)) (.int 1))) (.cons (.for_ (.itR1 (.int 4)) (.nm 3) (.cons (.setI (.var 0) (.str dL) (.op .add (.op .mul (.ix (.var 0) (.str dL)) (.int 2147483647)) (.call 0 (.cons (.ix (.var 0) (.str dS)) (.cons (.op .add (.op .mul (.int 4) (.ix (.var 0) (.str dT))) (.var 3)) .nil))))) .nil)) .nil)
def E_digit : S := .cons (.ife (.cmp .eq (.ix (.var 0) (.str dL)) (.int 0)) E_digitIf .nil) (.cons (.set (.nm 2) (.op .mod (.ix (.var 0) (.str dL)) (.var 1))) (.cons (.setI (.var 0) (.str dL) (.op .fdiv (.ix (.var 0) (.str dL)) (.var 1))) (.cons (.ret (.var 2)) .nil)))
/-- what a draw gives, and the state behind it -/
def spDigit : DSp := fun ds h _ Q => ∃ (p : Addr) (m n : Int), ds = [.ref p, .int m] ∧ 1 ≤ m ∧ m < 1000000 ∧ n < 2 ^ 40 ∧ St n h p ∧ ∀ (r : Int) (h' : PH), 0 ≤ r → r < m → St (n + 1) h' p → ExtBut p h h' → Q (.int r) h'
theorem digit_if (sps : List DSp) (e : sps[0]? = some spMixed) (p : Addr) (m n : Int) (h : PH) (Z : DEnds) (hn : n < 2 ^ 40) (st : St n h p)
    (k : ∀ (x : Option D) (h' : PH), St (n + 1) h' p → ExtBut p h h' → Z.nx [some (.ref p), some (.int m), none, x] h') : rdS sps E_digitIf Z [some (.ref p), some (.int m), none, none] h := by
  obtain ⟨l, s, t, eh, hl, ht, htn⟩ := st
  simp [E_digitIf, ixT eh, setT eh]
  intro h1 e1 x1
  refine forLoop_inv (fun ds ρ h' => (∃ x, ρ = [some (.ref p), some (.int m), none, x]) ∧ (∃ l', 0 ≤ l' ∧ h' p = some (stO (.int l') (.int s) (.int (t + 1)))) ∧ ExtBut p h h' ∧ ∀ d ∈ ds, ∃ j : Nat, d = .int j ∧ j < 4) (fun _ _ _ _ => trivial) ?_ ?_ _ _ _ ⟨⟨_, rfl⟩, ⟨l, hl, e1⟩, x1, ?_⟩
  · rintro d ds ρ h' ⟨⟨x, rfl⟩, ⟨l', hl', e'⟩, x', hd⟩
    obtain ⟨j, rfl, hj⟩ := hd d (by simp)
    refine ⟨_, asg_nm, fun N hN => ?_⟩
    simp [ixL e', ixS e', ixT e']
    refine ⟨.inr ⟨by decide, by decide⟩, cmul_of (by decide) (by decide), spAt_ok e ⟨s, _, rfl, by omega, by omega, fun r hr hr2 => ?_⟩⟩
    simp [setL e']
    intro h2 e2 x2
    exact hN _ _ ⟨⟨_, rfl⟩, ⟨_, by have := Int.mul_nonneg hl' (show (0 : Int) ≤ 2147483647 by decide); omega, e2⟩, x'.trans x2, fun d' h' => hd d' (by simp [h'])⟩
  · rintro ρ h' ⟨⟨x, rfl⟩, ⟨l', hl', e'⟩, x', _⟩
    exact k x h' ⟨l', s, _, e', hl', by omega, by omega⟩ x'
  · intro d hd
    simp only [natsD, List.mem_map, List.mem_range] at hd
    obtain ⟨j, hj, rfl⟩ := hd
    exact ⟨j, rfl, hj⟩
theorem b_digit (sps : List DSp) (e : sps[0]? = some spMixed) (ds h xq Q) (q : spDigit ds h xq Q) : rdS sps E_digit { nx := fun _ h' => Q .non h', rt := Q, xq := fun _ => xq } (startD 4 ds) h := by
  obtain ⟨p, m, n, rfl, hm, hm2, hn, st, hQ⟩ := q
  have fin : ∀ (x : Option D) (h' : PH), St (n + 1) h' p → ExtBut p h h' → rdS sps (.cons (.set (.nm 2) (.op .mod (.ix (.var 0) (.str dL)) (.var 1))) (.cons (.setI (.var 0) (.str dL) (.op .fdiv (.ix (.var 0) (.str dL)) (.var 1))) (.cons (.ret (.var 2)) .nil))) { nx := fun _ h' => Q .non h', rt := Q, xq := fun _ => xq } [some (.ref p), some (.int m), none, x] h' := by
    rintro x h' ⟨l, s, t, e', hl, ht, htn⟩ x'
    simp [ixL e', setL e']
    refine ⟨by omega, ⟨by omega, by omega⟩, fun h2 e2 x2 => hQ _ _ (Int.emod_nonneg _ (by omega)) (Int.emod_lt_of_pos _ (by omega)) ⟨_, _, _, e2, Int.ediv_nonneg hl (by omega), ht, htn⟩ (x'.trans x2)⟩
  have st0 := st
  obtain ⟨l, s, t, eh, hl, ht, htn⟩ := st
  have sd : startD 4 [.ref p, .int m] = [some (.ref p), some (.int m), none, none] := rfl
  rw [sd]
  unfold E_digit
  rw [rdS_cons, rdS_ife]
  simp only [rdT_cmp, rdE_ix, rdE_var, rdE_str, rdE_int, List.getElem?_cons_zero, ixL eh, cmp_eqI]
  by_cases z : l = 0
  · simp only [z, decide_true]
    refine digit_if sps e p m n h _ hn st0 fun x h' s' x' => fin x h' s' x'
  · simp only [z, decide_false, rdS_nil]
    exact fin none h ⟨l, s, t, eh, hl, ht, by omega⟩ .refl
end Lit
/-! The program's words: whole numbers, names, numbers, rows. -/
namespace Lit
open PySem PySem.Spec PyProof.Rows L2
abbrev body (sps : List DSp) (e : S) (n : Nat) (ds : List D) (h : PH) (xq : XQ) (Q : D → PH → Prop) : Prop := rdS sps e { nx := fun _ h' => Q .non h', rt := Q, xq := fun _ => xq } (startD n ds) h
theorem isi_ref {t : Ty} {a : Addr} {h : PH} {Q : Bool → Prop} (d : isData (.ref a) h = true) (b : bltTy t = true) (q1 : t ≠ .list → Q false) (q2 : ∀ ds, h a = some (.lst ds) → t = .list → Q true) (q3 : t = .list → (∀ ds, h a ≠ some (.lst ds)) → Q false) : isiD t (.ref a) h Q := by
  have d : (match h a with
    | some (.lst _) => true
    | some (.dct _) => true
    | _ => false) = true := d
  cases e : h a with
  | none => rw [e] at d; cases d
  | some o =>
    cases o with
    | lst ds =>
      by_cases z : t = .list
      · have := q2 ds e z
        subst z
        simpa [isiD, e] using this
      · cases t <;> first | exact absurd rfl z | (simp [isiD, e]; exact q1 z) | cases b
    | dct ks =>
      by_cases z : t = .list
      · have := q3 z (fun ds c => by rw [e] at c; cases c)
        subst z
        simpa [isiD, e] using this
      · cases t <;> first | exact absurd rfl z | (simp [isiD, e]; exact q1 z) | cases b
    | ins _ _ => rw [e] at d; cases d
    | exc _ _ => rw [e] at d; cases d
/-! ### is_whole, is_among -/
def isW : D → Bool
  | .int _ => true
  | _ => false
def E_whole : S := .cons (.ret (.land (.cons (.isi (.var 0) .int) (.cons (.lnot (.isi (.var 0) .bool)) .nil)))) .nil
def spWhole : DSp := fun ds h _ Q => ∃ d, ds = [d] ∧ isData d h = true ∧ Q (.bl (isW d)) h
theorem b_whole (sps : List DSp) (ds h xq Q) (q : spWhole ds h xq Q) : body sps E_whole 1 ds h xq Q := by
  obtain ⟨d, rfl, hd, hQ⟩ := q
  cases d with
  | ref a =>
    simp [body, E_whole, startD, hd]
    exact isi_ref hd rfl (fun _ => by simpa [isW] using hQ) (fun _ _ z => nomatch z) (fun z => nomatch z)
  | _ => simpa [body, E_whole, startD, isiD, isData, isW] using hQ
def isA (d : D) (i j : Int) : Bool := match d with
  | .int k => decide (i ≤ k) && decide (k ≤ j)
  | _ => false
def E_among (i : Nat) : S := .cons (.ret (.land (.cons (.call i (.cons (.var 0) .nil)) (.cons (.chain .le .le (.var 1) (.var 0) (.var 2)) .nil)))) .nil
def spAmong : DSp := fun ds h _ Q => ∃ (d : D) (i j : Int), ds = [d, .int i, .int j] ∧ isData d h = true ∧ Q (.bl (isA d i j)) h
theorem b_among (sps : List DSp) (n : Nat) (e : sps[n]? = some spWhole) (ds h xq Q) (q : spAmong ds h xq Q) : body sps (E_among n) 3 ds h xq Q := by
  obtain ⟨d, i, j, rfl, hd, hQ⟩ := q
  simp [body, E_among, startD]
  refine spAt_ok e ⟨d, rfl, hd, ?_⟩
  cases d with
  | int k =>
    simp [isW]
    simp only [isA] at hQ
    by_cases z : i ≤ k
    · simp [z]
      simpa [z] using hQ
    · simp [z]
      simpa [z] using hQ
  | _ => simpa [isW, isA] using hQ
/-! ### is_name -/
def lets : List Nat := [97, 98, 99, 100, 101, 102, 103, 104, 105, 106, 107, 108, 109, 110, 111, 112, 113, 114, 115, 116, 117, 118, 119, 120, 121, 122]
def figs : List Nat := [48, 49, 50, 51, 52, 53, 54, 55, 56, 57]
def isN : D → Bool
  | .str s => decide (1 ≤ s.length) && decide (s.length ≤ 8) && s.all fun c => decide (c ∈ lets)
  | _ => false
def shortD : D → Prop
  | .str s => s.length ≤ sizeLine
  | _ => True
/-- all([sign in T for sign in s]), s the first slot -/
def allIn (i : Nat) (g : Str) (t : List Nat) : E := .b1 .all (.comp (.itL (.var 0)) (.nm i) [i] .nil (.cmp .isin (.var i) (.gstr g t)))
@[simp] theorem rdT_allIn {sps : List DSp} {i : Nat} {g : Str} {t : List Nat} {ρ : Rho} {h : PH} {xq : XQ} {R : Bool → PH → Prop} : rdT_ sps (allIn i g t) ρ h xq R = rdE sps (allIn i g t) ρ h xq fun x h1 => truQ h1 x fun k => R k h1 := by
  simp only [allIn, rdT_] <;> rfl
def E_name : S := .cons (.ife (.lor (.cons (.lnot (.isi (.var 0) .str)) (.cons (.lnot (.chain .le .le (.int 1) (.b1 .len (.var 0)) (.gint "MOST_LETTERS" 8))) .nil))) (.cons (.ret (.bl false)) .nil) .nil) (.cons (.ret (allIn 1 "LETTERS" lets)) .nil)
def spName : DSp := fun ds h _ Q => ∃ d, ds = [d] ∧ isData d h = true ∧ shortD d ∧ ∀ h', Ext h h' → Q (.bl (isN d)) h'
theorem len_str {s : List Nat} {h : PH} {Q : D → PH → Prop} : b1D .len (.str s) h Q = (s.length ≤ sizeLine ∧ Q (.int s.length) h) := rfl
theorem bls_bl : ∀ bs : List Bool, blsOf (bs.map D.bl) = some bs
  | [] => rfl
  | b :: bs => by simp only [List.map_cons, blsOf, bls_bl bs, Option.map_some]
theorem strs_str : ∀ bs : List (List Nat), strsOf (bs.map D.str) = some bs
  | [] => rfl
  | b :: bs => by simp only [List.map_cons, strsOf, strs_str bs, Option.map_some]
theorem ints_int : ∀ bs : List Int, intsOf (bs.map D.int) = some bs
  | [] => rfl
  | b :: bs => by simp only [List.map_cons, intsOf, ints_int bs, Option.map_some]
/-- f of a text of one sign -/
def sgn (g : Nat → Option D) : D → Option D
  | .str [c] => g c
  | _ => none
theorem fm_sig (g : Nat → Option D) : ∀ s : List Nat, (s.map fun c => D.str [c]).filterMap (sgn g) = s.filterMap g
  | [] => rfl
  | c :: s => by
    rw [List.map_cons, List.filterMap_cons, List.filterMap_cons, fm_sig g s] <;> rfl
theorem fm_some {α β : Type} (f : α → β) : ∀ s : List α, s.filterMap (fun c => some (f c)) = s.map f
  | [] => rfl
  | c :: s => by rw [List.filterMap_cons, fm_some f s, List.map_cons]
/-- all([sign in T for sign in s]) -/
theorem all_in (sps : List DSp) {ρ : Rho} {h : PH} {xq : XQ} {Q : D → PH → Prop} {s t : List Nat} {g : Str} {i : Nat} (hi : i < ρ.length) (h0 : ρ[0]? = some (some (.str s))) (hl : s.length ≤ sizeLine) (q : ∀ h', Ext h h' → Q (.bl (s.all fun c => decide (c ∈ t))) h') :
    rdE sps (allIn i g t) ρ h xq Q := by
  simp only [allIn, rdE_b1, rdE_comp, rdI_itL, rdE_var, h0]
  refine compLoop_map (sgn fun c => some (.bl (decide (c ∈ t)))) (fun h' => h' = h) (fun _ _ => trivial) _ _ _ ?_ (by simpa using hl) rfl ?_
  · intro d hd h' eh
    subst eh
    obtain ⟨c, _, rfl⟩ := List.mem_map.mp hd
    refine ⟨_, asg_nm, fun P hP => ?_⟩
    simp only [rdC_nil, rdE_cmp, rdE_var, rdE_gstr]
    have e : (List.set (wipeR ρ [i]) i (some (D.str [c])))[i]? = some (some (.str [c])) := by
      simp [wipeR, hi]
    rw [e]
    exact hP _ rfl
  · intro h' eh p h2 n e x
    subst eh
    have fm := fm_sig (fun c => some (D.bl (decide (c ∈ t)))) s
    rw [fm_some] at fm
    have mm : (s.map fun c => D.bl (decide (c ∈ t))) = (s.map fun c => decide (c ∈ t)).map D.bl := by rw [List.map_map]; rfl
    rw [mm] at fm
    simp only [List.nil_append, fm] at e
    simp only [b1D, rdL, e, bls_bl]
    rw [List.all_map]
    exact q _ x
theorem b_name (sps : List DSp) (ds h xq Q) (q : spName ds h xq Q) : body sps E_name 2 ds h xq Q := by
  obtain ⟨d, rfl, hd, hs, hQ⟩ := q
  have no : isN d = false → (∀ s, d ≠ .str s) → body sps E_name 2 [d] h xq Q := fun e1 e2 => by
    have hq := hQ h .refl
    rw [e1] at hq
    cases d with
    | str s => exact absurd rfl (e2 s)
    | ref a =>
      simp [body, E_name, startD, hd]
      exact isi_ref hd rfl (fun _ => by simpa using hq) (fun _ _ z => nomatch z) (fun z => nomatch z)
    | _ => simpa [body, E_name, startD, isiD, isData] using hq
  cases d with
  | str s =>
    by_cases z1 : (1 : Int) ≤ (s.length : Int)
    · by_cases z2 : (s.length : Int) ≤ 8
      · have i1 : isN (.str s) = s.all fun c => decide (c ∈ lets) := by
          have y1 : 1 ≤ s.length := by omega
          have y2 : s.length ≤ 8 := by omega
          simp [isN, y1, y2]
        simp [body, E_name, startD, isiD, isData, len_str, z1, z2, show s.length ≤ sizeLine from hs]
        exact all_in sps (Nat.lt_succ_self 1) rfl hs (by rw [← i1]; exact hQ)
      · have i1 : isN (.str s) = false := by
          have y2 : ¬ s.length ≤ 8 := by omega
          simp [isN, y2]
        have hq := hQ h .refl
        rw [i1] at hq
        simp [body, E_name, startD, isiD, isData, len_str, z1, z2, show s.length ≤ sizeLine from hs]
        exact hq
    · have i1 : isN (.str s) = false := by
        have y1 : ¬ 1 ≤ s.length := by omega
        simp [isN, y1]
      have hq := hQ h .refl
      rw [i1] at hq
      simp [body, E_name, startD, isiD, isData, len_str, z1, show s.length ≤ sizeLine from hs]
      exact hq
  | _ => exact no rfl (fun _ z => nomatch z)

/-! ### number_of -/
def numV : List Nat → Nat := fun s => s.foldl (fun n c => n * 10 + (c - 48)) 0
def okNum (s : List Nat) : Bool := decide (1 ≤ s.length) && decide (s.length ≤ 2) && (s.all fun c => decide (c ∈ figs)) && !(decide (s[0]? = some 48) && decide (s ≠ [48]))
def numD : D → D
  | .str s => if okNum s = true then .int (numV s : Nat) else .non
  | _ => .non
def E_number : S := .cons (.ife (.lor (.cons (.lnot (.isi (.var 0) .str)) (.cons (.lnot (.chain .le .le (.int 1) (.b1 .len (.var 0)) (.gint "MOST_FIGURES" 2))) .nil))) (.cons (.ret .non) .nil) .nil)
  (.cons (.ife (.lor (.cons (.lnot (allIn 1 "FIGURES" figs)) (.cons (.land (.cons (.cmp .eq (.ix (.var 0) (.int 0)) (.str [48])) (.cons (.cmp .ne (.var 0) (.str [48])) .nil))) .nil))) (.cons (.ret .non) .nil) .nil) (.cons (.ret (.b1 .int (.var 0))) .nil))
def spNumber : DSp := fun ds h _ Q => ∃ d, ds = [d] ∧ isData d h = true ∧ shortD d ∧ ∀ h', Ext h h' → Q (numD d) h'
theorem figs_of {c : Nat} : c ∈ figs → 48 ≤ c ∧ c ≤ 57 := by
  intro h
  simp only [figs, List.mem_cons, List.not_mem_nil, or_false] at h
  omega
theorem int_num {s : List Nat} (h1 : s ≠ []) (h2 : s.length ≤ 2) (h : (s.all fun c => decide (c ∈ figs)) = true) : PySem.intText? (mkS s) = some ((numV s : Nat) : Int) := by
  have a : s.all (fun c => decide (48 ≤ c) && decide (c ≤ 57)) = true := by
    rw [List.all_eq_true] at h ⊢
    intro c hc
    have := figs_of (of_decide_eq_true (h c hc))
    simp [this.1, this.2]
  rw [SX.int_S a h1 (by omega)]
  match s, h1, h2 with
  | [x], _, _ => simp [NumText.digitsVal, numV]
  | [x, y], _, _ => simp [NumText.digitsVal, numV]
theorem b_number (sps : List DSp) (ds h xq Q) (q : spNumber ds h xq Q) : body sps E_number 2 ds h xq Q := by
  obtain ⟨d, rfl, hd, hs, hQ⟩ := q
  cases d with
  | str s =>
    have hs : s.length ≤ sizeLine := hs
    by_cases z1 : (1 : Int) ≤ (s.length : Int)
    · by_cases z2 : (s.length : Int) ≤ 2
      · have y1 : 1 ≤ s.length := by omega
        have y2 : s.length ≤ 2 := by omega
        have ne : s ≠ [] := fun e => by rw [e] at y1; simp at y1
        simp [body, E_number, startD, isiD, isData, len_str, z1, z2, hs]
        refine all_in sps (ρ := [some (.str s), none]) (Nat.lt_succ_self 1) rfl hs fun h1 x1 => ?_
        simp only [truQ]
        cases ea : s.all fun c => decide (c ∈ figs) with
        | false =>
          simp
          have := hQ h1 x1
          have i1 : numD (.str s) = .non := by simp [numD, okNum, ea]
          rwa [i1] at this
        | true =>
          obtain ⟨c, r, rfl⟩ := List.exists_cons_of_ne_nil ne
          simp only [Bool.not_true]
          have e0 : atI (c :: r) 0 = some c := by simp [atI, ixN]
          simp [ixD, e0, hs]
          have hq := hQ h1 x1
          by_cases c1 : c = 48
          · by_cases c2 : r = []
            · subst c1 c2
              simp [b1D, int_num ne y2 ea]
              exact ⟨by decide, by simpa [numD, okNum, ea] using hq⟩
            · simp [c1, c2]
              exact ⟨by simpa using hs, by simpa [numD, okNum, c1, c2] using hq⟩
          · simp [c1, b1D, int_num ne y2 ea]
            refine ⟨by simpa using hs, by simp at y2; omega, ?_⟩
            have y2' : r.length + 1 ≤ 2 := by simpa using y2
            have ea' := ea
            simp only [List.all_cons] at ea'
            have : numD (.str (c :: r)) = .int ((numV (c :: r) : Nat) : Int) := by
              simp only [numD, okNum, ea, List.length_cons]
              simp [c1]
              omega
            rwa [this] at hq
      · have i1 : numD (.str s) = .non := by
          have y2 : ¬ s.length ≤ 2 := by omega
          simp [numD, okNum, y2]
        have hq := hQ h .refl
        rw [i1] at hq
        simp [body, E_number, startD, isiD, isData, len_str, z1, z2, hs]
        exact hq
    · have i1 : numD (.str s) = .non := by
        have y1 : ¬ 1 ≤ s.length := by omega
        simp [numD, okNum, y1]
      have hq := hQ h .refl
      rw [i1] at hq
      simp [body, E_number, startD, isiD, isData, len_str, z1, hs]
      exact hq
  | ref a =>
    have hq := hQ h .refl
    simp [body, E_number, startD, hd]
    exact isi_ref hd rfl (fun _ => by simpa [numD] using hq) (fun _ _ z => nomatch z) (fun z => nomatch z)
  | _ => simpa [body, E_number, startD, isiD, isData, numD] using hQ h .refl

/-! ### words_of -/
abbrev splS (b s : List Nat) : List (List Nat) := TL.spl b 0 [] s
theorem split_mth {s b : List Nat} {h : PH} {Q : D → PH → Prop} (hb : b ≠ []) (hk : b.all (· < 256) = true) : mthD .split (.str s) [.str b] h Q = (b ≠ [] ∧ s.length + 2 ≤ sizeLine ∧ alloc (.lst ((splS b s).map D.str)) h Q) := by
  have e : ((Txt.split (mkS s) (mkS b)).map fun z => D.str z.cps.toList) = (splS b s).map D.str := by
    rw [SX.split_S hb hk, List.map_map]
    rfl
  simp only [mthD, e]
theorem any_nil : ∀ ps : List (List Nat), ((ps.map D.str).any fun d => eqF d (.str [])) = decide ([] ∈ ps)
  | [] => rfl
  | p :: ps => by
    rw [List.map_cons, List.any_cons, any_nil ps]
    cases p with
    | nil => simp [eqF]
    | cons a r => simp [eqF]
theorem flat_strs : ∀ ps : List (List Nat), (ps.map D.str).all flatD = true
  | [] => rfl
  | p :: ps => by rw [List.map_cons, List.all_cons, flat_strs ps] <;> rfl
theorem in_nil {h : PH} {p : Addr} {ps : List (List Nat)} {R : Bool → Prop} (e : h p = some (.lst (ps.map D.str))) : cmpD .isin (.str []) (.ref p) h R = R (decide ([] ∈ ps)) := by
  have fl : flatD (.str []) = true := rfl
  simp only [cmpD, inQ, rdQ, rdL, e, flat_strs, any_nil, fl, true_and]
def rowD : D → Option (List (List Nat))
  | .str s => if [] ∈ splS [32] s then none else some (splS [32] s)
  | _ => none
def E_words : S := .cons (.ife (.lor (.cons (.lnot (.isi (.var 0) .str)) (.cons (.cmp .isin (.str []) (.mth .split (.var 0) (.cons (.str [32]) .nil))) .nil))) (.cons (.ret .non) .nil) .nil) (.cons (.ret (.mth .split (.var 0) (.cons (.str [32]) .nil))) .nil)
def shortD2 : D → Prop
  | .str s => s.length + 2 ≤ sizeLine
  | _ => True
def spWords : DSp := fun ds h _ Q => ∃ d, ds = [d] ∧ isData d h = true ∧ shortD2 d ∧ (rowD d = none → ∀ h', Ext h h' → Q .non h') ∧ ∀ ps, rowD d = some ps → ∀ p h', h p = none → h' p = some (.lst (ps.map .str)) → Ext h h' → Q (.ref p) h'
theorem ext_none {h h' : PH} {p : Addr} (x : Ext h h') (n : h' p = none) : h p = none := by
  cases e : h p with
  | none => rfl
  | some o => rw [x p o e] at n; cases n
theorem b_words (sps : List DSp) (ds h xq Q) (q : spWords ds h xq Q) : body sps E_words 1 ds h xq Q := by
  obtain ⟨d, rfl, hd, hs, q1, q2⟩ := q
  cases d with
  | str s =>
    have hs : s.length + 2 ≤ sizeLine := hs
    have sp := fun (h : PH) (Q : D → PH → Prop) => split_mth (s := s) (b := [32]) (h := h) (Q := Q) (by simp) (by decide)
    simp [body, E_words, startD, isiD, isData, tyB, isStr, sp, hs]
    intro p h1 n1 e1 x1
    rw [in_nil e1]
    by_cases z : [] ∈ splS [32] s
    · simp [z]
      exact q1 (by simp [rowD, z]) _ x1
    · simp [z]
      intro p2 h2 n2 e2 x2
      exact q2 _ (by simp [rowD, z]) p2 h2 (ext_none x1 n2) e2 (x1.trans x2)
  | ref a =>
    simp [body, E_words, startD, hd]
    exact isi_ref hd rfl (fun _ => by simpa using q1 rfl h .refl) (fun _ _ z => nomatch z) (fun z => nomatch z)
  | _ => simpa [body, E_words, startD, isiD, isData] using q1 rfl h .refl
end Lit
/-! == of told lists; repr of what k01 and its like tell. -/
namespace Lit
open PySem PySem.Spec PyProof.Rows L2
def okC (s : List Nat) : Bool := s.all fun c => decide (c < 0x110000)
theorem okC_all {s : List Nat} (h : okC s = true) : PyData.strOk (mkS s) = true := by
  unfold PyData.strOk
  rw [← Array.all_toList]
  exact h
theorem mapM_strs {h : PH} {n : Nat} : ∀ ps : List (List Nat), (ps.map D.str).mapM (deref (n + 1) h) = some (ps.map D.str)
  | [] => rfl
  | p :: ps => by
    rw [List.map_cons, List.mapM_cons, mapM_strs ps]
    rfl
theorem deref_strs {h : PH} {p : Addr} {ps : List (List Nat)} (e : h p = some (.lst (ps.map D.str))) : deref 12 h (.ref p) = some (.rol (ps.map D.str)) := by
  show (match h p with
    | some (.lst ds) => (ds.mapM (deref 11 h)).map D.rol
    | _ => none) = _
  rw [e]
  show ((ps.map D.str).mapM (deref 11 h)).map D.rol = _
  rw [mapM_strs]
  rfl
theorem toPDs_strs : ∀ ps : List (List Nat), toPDs (ps.map D.str) = ps.map fun s => PyData.str (mkS s)
  | [] => by simp only [List.map_nil, toPDs]
  | p :: ps => by simp only [List.map_cons, toPDs, toPD, toPDs_strs ps]
theorem lay_strs : ∀ ps : List (List Nat), (ps.all okC) = true → PyData.canLayAll0 (ps.map fun s => PyData.str (mkS s)) = true
  | [], _ => by simp only [List.map_nil, PyData.canLayAll0]
  | p :: ps, h => by
    rw [List.all_cons, Bool.and_eq_true_iff] at h
    simp only [List.map_cons, PyData.canLayAll0, PyData.canLay0, okC_all h.1, lay_strs ps h.2, Bool.and_self]
theorem depth_strs : ∀ ps : List (List Nat), PyData.depthAll (ps.map fun s => PyData.str (mkS s)) = 0
  | [] => by simp only [List.map_nil, PyData.depthAll]
  | p :: ps => by simp only [List.map_cons, PyData.depthAll, PyData.depth, depth_strs ps, Nat.max_self]
theorem sane_strs {ps : List (List Nat)} (h : (ps.all okC) = true) : sane (.rol (ps.map D.str)) = true := by
  unfold sane SeqAt.shaped
  simp only [toPD, toPDs_strs, PyData.canLay0, PyData.depth, lay_strs ps h, depth_strs]
  rfl
theorem eqvAll_strs : ∀ as bs : List (List Nat), PyData.eqvAll (as.map fun s => PyData.str (mkS s)) (bs.map fun s => PyData.str (mkS s)) = decide (as = bs)
  | [], [] => by simp [PyData.eqvAll]
  | [], _ :: _ => by simp [PyData.eqvAll]
  | _ :: _, [] => by simp [PyData.eqvAll]
  | a :: as, b :: bs => by
    simp only [List.map_cons, PyData.eqvAll, PyData.eqv, eqvAll_strs as bs, List.cons.injEq]
    rw [show (mkS a == mkS b) = decide (a = b) from SX.S_beq_eq]
    simp
theorem eqv_strs (as bs : List (List Nat)) : eqv (.rol (as.map D.str)) (.rol (bs.map D.str)) = decide (as = bs) := by
  unfold eqv
  simp only [toPD, toPDs_strs, PyData.eqv, eqvAll_strs]
section
variable {h : PH} {p q : Addr} {R : Bool → Prop}
theorem deepEq_eq {x y dx dy : D} (ex : deref 12 h x = some dx) (ey : deref 12 h y = some dy) (sx : sane dx = true) (sy : sane dy = true) : deepEq h x y R = R (eqv dx dy) := by
  simp only [deepEq, ex, ey, sx, sy, true_and]
theorem eq_refs : cmpD .eq (.ref p) (.ref q) h R = deepEq h (.ref p) (.ref q) R := rfl
theorem ne_refs : cmpD .ne (.ref p) (.ref q) h R = deepEq h (.ref p) (.ref q) fun b => R (!b) := rfl
theorem eq_strs {as bs : List (List Nat)} (ea : h p = some (.lst (as.map D.str))) (eb : h q = some (.lst (bs.map D.str))) (oa : (as.all okC) = true) (ob : (bs.all okC) = true) : cmpD .eq (.ref p) (.ref q) h R = R (decide (as = bs)) := by
  rw [eq_refs, deepEq_eq (deref_strs ea) (deref_strs eb) (sane_strs oa) (sane_strs ob), eqv_strs]
theorem ne_strs {as bs : List (List Nat)} (ea : h p = some (.lst (as.map D.str))) (eb : h q = some (.lst (bs.map D.str))) (oa : (as.all okC) = true) (ob : (bs.all okC) = true) : cmpD .ne (.ref p) (.ref q) h R = R (!decide (as = bs)) := by
  rw [ne_refs, deepEq_eq (deref_strs ea) (deref_strs eb) (sane_strs oa) (sane_strs ob), eqv_strs]
/-- the parts' signs are the text's -/
theorem spl_ok {b : List Nat} : ∀ {l acc : List Nat} {k : Nat}, okC acc = true → okC l = true → (TL.spl b k acc l).all okC = true
  | [], acc, k, h1, _ => by
    rw [TL.spl_nil]
    simp [h1]
  | c :: r, acc, 0, h1, h2 => by
    have h2' : okC r = true ∧ decide (c < 0x110000) = true := by
      unfold okC at h2 ⊢
      rw [List.all_cons, Bool.and_eq_true_iff] at h2
      exact ⟨h2.2, h2.1⟩
    cases e : TL.pre b (c :: r) with
    | true =>
      rw [TL.spl_hit e, List.all_cons, h1, spl_ok (acc := []) rfl h2'.1]
      rfl
    | false =>
      rw [TL.spl_miss e]
      refine spl_ok ?_ h2'.1
      unfold okC at h1 ⊢
      rw [List.all_append, h1]
      simpa using h2'.2
  | c :: r, acc, k + 1, h1, h2 => by
    have h2' : okC r = true := by
      unfold okC at h2 ⊢
      rw [List.all_cons, Bool.and_eq_true_iff] at h2
      exact h2.2
    show (TL.spl b k acc r).all okC = true
    exact spl_ok h1 h2'
theorem splS_ok {b s : List Nat} (h : okC s = true) : (splS b s).all okC = true := spl_ok rfl h
end
end Lit
namespace Lit
open PySem PySem.Spec PyProof.Rows L2
/-- a comprehension by a word about what is left and what is had -/
theorem compLoop_inv {tg : Tg} {vs : List Nat} {cond : RT} {elt : RE} {stay : PH → Prop} {ρ : Rho} {Q : List D → PH → Prop} (Pv : List D → List D → PH → Prop) (hs : ∀ ds acc h, Pv ds acc h → stay h)
    (step : ∀ d ds acc h, Pv (d :: ds) acc h → ∃ ρ1, asg tg d (wipeR ρ vs) = some ρ1 ∧ ∀ N : List D → PH → Prop, (∀ acc' h', Pv ds acc' h' → N acc' h') → cond ρ1 h noX fun b h1 => match b with
      | true => elt ρ1 h1 noX fun y h2 => acc.length < sizeLine ∧ N (acc ++ [y]) h2
      | false => N acc h1) (fin : ∀ acc h, Pv [] acc h → Q acc h) : ∀ (ds acc : List D) (h : PH), Pv ds acc h → compLoop tg vs cond elt stay ρ ds acc h Q
  | [], acc, h, p => by
    simp only [compLoop]
    exact fin acc h p
  | d :: ds, acc, h, p => by
    obtain ⟨ρ1, e, st⟩ := step d ds acc h p
    simp only [compLoop, e]
    exact st (fun acc' h' => stay h' ∧ compLoop tg vs cond elt stay ρ ds acc' h' Q) fun acc' h' p' => ⟨hs _ _ _ p', compLoop_inv Pv hs step fin ds acc' h' p'⟩
theorem atI_in {α : Type} {l : List α} {r : Int} (h0 : 0 ≤ r) (h1 : r < l.length) : ∃ c, atI l r = some c ∧ c ∈ l := by
  have hl : r.toNat < l.length := by omega
  have e1 : ixN l.length r = some r.toNat := by
    unfold ixN
    rw [if_pos h0]
    first | rfl | rw [if_pos hl] | (rw [if_pos]; omega)
  refine ⟨l[r.toNat], ?_, List.getElem_mem hl⟩
  unfold atI
  rw [e1]
  exact List.getElem?_eq_getElem hl
theorem isData_ext {d : D} {h h' : PH} (x : Ext h h') (e : isData d h = true) : isData d h' = true := by
  cases d with
  | ref a =>
    have e : (match h a with
      | some (.lst _) => true
      | some (.dct _) => true
      | _ => false) = true := e
    show (match h' a with
      | some (.lst _) => true
      | some (.dct _) => true
      | _ => false) = true
    cases ea : h a with
    | none => rw [ea] at e; cases e
    | some o => rw [x a o ea]; rw [ea] at e; exact e
  | _ => rfl
theorem St.ext {n : Int} {h h' : PH} {p : Addr} (s : St n h p) (x : Ext h h') : St n h' p := by
  obtain ⟨l, z, t, e, r⟩ := s
  exact ⟨l, z, t, x p _ e, r⟩
theorem St.up {n m : Int} {h : PH} {p : Addr} (s : St n h p) (x : n ≤ m) : St m h p := by
  obtain ⟨l, z, t, e, r1, r2, r3⟩ := s
  exact ⟨l, z, t, e, r1, r2, by omega⟩
theorem okC_app {a b : List Nat} : okC (a ++ b) = (okC a && okC b) := by simp [okC]
theorem okC_of {a : List Nat} (h : ∀ c ∈ a, c < 128) : okC a = true := by
  unfold okC
  rw [List.all_eq_true]
  intro c hc
  have := h c hc
  exact decide_eq_true (by omega)
theorem joinL_nil : ∀ ys : List (List Nat), TL.joinL [] ys = ys.flatten
  | [] => rfl
  | [x] => by simp [TL.joinL]
  | x :: y :: r => by
    have := joinL_nil (y :: r)
    simp only [TL.joinL, List.nil_append, List.flatten_cons] at this ⊢
    rw [this]
theorem join_mth {s : List Nat} {q : Addr} {ys : List (List Nat)} {h : PH} {Q : D → PH → Prop} (e : h q = some (.lst (ys.map D.str))) : mthD .join (.str s) [.ref q] h Q = ((ys.map (·.length)).sum + ys.length * s.length ≤ 16777216 ∧ Q (.str (TL.joinL s ys)) h) := by
  have e1 : rdQ h (.ref q) = some (ys.map D.str) := by simp only [rdQ, rdL, e]
  simp only [mthD, e1, strs_str]
  have e2 : (Txt.join (mkS s) (ys.map mkS)).cps.toList = TL.joinL s ys := by rw [show Txt.join (mkS s) (ys.map mkS) = mkS (TL.joinL s ys) from SX.join_S s ys]
  rw [e2]
theorem upper_mth {s : List Nat} {h : PH} {Q : D → PH → Prop} (a : ∀ c ∈ s, c < 128) : mthD .upper (.str s) [] h Q = (s.length ≤ 5592405 ∧ Q (.str (s.map PyProof.Rows.up1)) h) := by
  have e2 : (Txt.upper (mkS s)).cps.toList = s.map PyProof.Rows.up1 := by
    rw [show Txt.upper (mkS s) = mkS (s.map PyProof.Rows.up1) from SX.upper_S (List.all_eq_true.mpr fun c hc => decide_eq_true (a c hc))]
  simp only [mthD, e2]
theorem up1_lt : ∀ c < 128, PyProof.Rows.up1 c < 128 := by decide +kernel
theorem St.told {n : Int} {h : PH} {p : Addr} (s : Lit.St n h p) : ∃ o, h p = some o := let ⟨_, _, _, e, _⟩ := s; ⟨_, e⟩
theorem St.ne {n : Int} {h : PH} {p q : Addr} (s : Lit.St n h p) (e : h q = none) : q ≠ p := fun z => by
  obtain ⟨o, t⟩ := St.told s
  rw [z, t] at e
  cases e
/-- a text of plain signs -/
def Wd (n : Nat) (s : List Nat) : Prop := (∀ c ∈ s, c < 128) ∧ s.length ≤ n
theorem Wd.ok {n : Nat} {s : List Nat} (w : Wd n s) : okC s = true := okC_of w.1
theorem Wd.app {n m : Nat} {s t : List Nat} (a : Wd n s) (b : Wd m t) : Wd (n + m) (s ++ t) := ⟨fun c hc => (List.mem_append.mp hc).elim (a.1 c) (b.1 c), by have := a.2; have := b.2; rw [List.length_append]; omega⟩
theorem Wd.up {n m : Nat} {s : List Nat} (a : Wd n s) (h : n ≤ m) : Wd m s := ⟨a.1, Nat.le_trans a.2 h⟩
theorem ext_put {h h1 h2 : PH} {a : Addr} (x : Ext h h1) (y : ExtBut a h1 h2) (n : h a = none) : Ext h h2 := fun b u e => y b u (fun z => by rw [z, n] at e; cases e) (x b u e)
/-- texts of one sign -/
theorem flat_sigs : ∀ {ys : List (List Nat)}, (∀ y ∈ ys, ∃ c, y = [c] ∧ c < 128) → (∀ c ∈ ys.flatten, c < 128) ∧ ys.flatten.length = ys.length ∧ (ys.map (·.length)).sum = ys.length
  | [], _ => ⟨by simp, rfl, rfl⟩
  | y :: ys, h => by
    obtain ⟨c, rfl, hc⟩ := h y (by simp)
    obtain ⟨a, b, d⟩ := flat_sigs (ys := ys) fun z hz => h z (by simp [hz])
    refine ⟨?_, by simp only [List.flatten_cons, List.length_append, b, List.length_cons, List.length_nil]; omega, by simp only [List.map_cons, List.sum_cons, d, List.length_cons, List.length_nil]; omega⟩
    intro x hx
    simp only [List.flatten_cons, List.mem_append, List.mem_singleton] at hx
    rcases hx with rfl | hx
    · exact hc
    · exact a x hx
theorem rdL_ref {h : PH} {p : Addr} {ds : List D} (e : h p = some (.lst ds)) : rdL h (.ref p) = some ds := by simp only [rdL, e]
theorem rdM_ref {h : PH} {p : Addr} {ds : List D} (e : h p = some (.lst ds)) : rdM h (.ref p) = some ds := by simp only [rdM, e]
theorem Wd.cut {n : Nat} {s : List Nat} {lo hi : Option Int} (w : Wd n s) : Wd n (cutL s lo hi) :=
  ⟨fun c hc => w.1 c (List.mem_of_mem_drop (List.mem_of_mem_take hc)), by unfold cutL; rw [List.length_take, List.length_drop]; have := w.2; omega⟩
theorem sl_str {s : List Nat} {lo hi : Option Int} {h : PH} {Q : D → PH → Prop} : slD (.str s) lo hi h Q = (s.length ≤ sizeLine ∧ Q (.str (cutL s lo hi)) h) := rfl
theorem append_mth {p : Addr} {y : D} {ds : List D} {h : PH} {Q : D → PH → Prop} (e : h p = some (.lst ds)) : mthD .append (.ref p) [y] h Q = (ds.length < sizeLine ∧ put p (.lst (ds ++ [y])) h fun h' => Q .non h') := by simp only [mthD, e]
theorem tyB_append {p : Addr} {ds : List D} {h : PH} (e : h p = some (.lst ds)) : tyB .append (.ref p) h = true := by simp only [tyB, rdM, e, Option.isSome_some]
theorem mapM_flat {h : PH} {n : Nat} : ∀ {ds : List D}, ds.all flatD = true → ds.mapM (deref (n + 1) h) = some ds
  | [], _ => rfl
  | d :: ds, f => by
    rw [List.all_cons, Bool.and_eq_true_iff] at f
    have e : deref (n + 1) h d = some d := by cases d <;> first | rfl | cases f.1
    rw [List.mapM_cons, e, mapM_flat f.2]
    rfl
theorem deref_flat {h : PH} {p : Addr} {ds : List D} (e : h p = some (.lst ds)) (f : ds.all flatD = true) : deref 12 h (.ref p) = some (.rol ds) := by
  show (match h p with
    | some (.lst ds) => (ds.mapM (deref 11 h)).map D.rol
    | _ => none) = _
  rw [e]
  show (ds.mapM (deref 11 h)).map D.rol = _
  rw [mapM_flat f]
  rfl
/-- repr of a told list of flat things -/
theorem repr_lst {h : PH} {p : Addr} {ds : List D} {z : List Nat} {Q : D → PH → Prop} (e : h p = some (.lst ds)) (f : ds.all flatD = true)
    (a : (((toPD (.rol ds)).showable = true ∧ (toPD (.rol ds)).depth ≤ 60) ∧ ((toPD (.rol ds)).hasDict = false ∧ (toPD (.rol ds)).shown.length ≤ sizeLine)) ∧ (toPD (.rol ds)).shown.cps.toList = z) : b1D .repr (.ref p) h Q = Q (.str z) h := by
  obtain ⟨⟨⟨a1, a2⟩, a3, a4⟩, a5⟩ := a
  simp only [b1D, deref_flat e f, a1, a2, a3, a4, a5, true_and]
theorem pairs_mem : ∀ {xs ys : List D} {d : D}, d ∈ pairsD xs ys → ∃ x ∈ xs, ∃ y ∈ ys, d = .tup [x, y]
  | [], _, _, h => by simp [pairsD] at h
  | _ :: _, [], _, h => by simp [pairsD] at h
  | x :: xs, y :: ys, d, h => by
    rcases List.mem_cons.mp (show d ∈ D.tup [x, y] :: pairsD xs ys from h) with rfl | h
    · exact ⟨x, by simp, y, by simp, rfl⟩
    · obtain ⟨a, ha, b, hb, e⟩ := pairs_mem h
      exact ⟨a, by simp [ha], b, by simp [hb], e⟩
theorem nats_mem {n : Nat} {d : D} (h : d ∈ natsD n) : ∃ k : Nat, d = .int k ∧ k < n := by
  simp only [natsD, List.mem_map, List.mem_range] at h
  obtain ⟨k, hk, rfl⟩ := h
  exact ⟨k, rfl, hk⟩
theorem cut_map {α β : Type} (f : α → β) (l : List α) (lo hi : Option Int) : cutL (l.map f) lo hi = (cutL l lo hi).map f := by
  unfold cutL
  rw [List.length_map, ← List.map_drop, ← List.map_take]
theorem cut_to {α : Type} {l : List α} {n : Nat} : (cutL l none (some (n : Int))).length ≤ n := by
  unfold cutL
  rw [List.length_take]
  have : HT.sIx l.length l.length (some (n : Int)) ≤ n := by
    unfold HT.sIx
    simp only []
    split <;> omega
  omega
end Lit
/-! Defs that keep their promises, one behind another. -/
namespace Lit
open PySem PySem.Spec PyProof.Rows L2
/-- the def of that name keeps sp, at most k deep -/
def Okd (P : Program) (w : World) (K : PySem.W.Frag) (mg : Str → Option Value) (base : Heap) (k : Nat) (p : Str × DSp) : Prop :=
  ∃ fa fd ps j, j ≤ k ∧ mg p.1 = some (.ref fa) ∧ PySem.W.keepIn K (.ref fa) = true ∧ FnG P w K mg base j fa fd ps (liftSp K p.2) ∧ Binds K fd ps []
def AllOk (P : Program) (w : World) (K : PySem.W.Frag) (mg : Str → Option Value) (base : Heap) (k : Nat) : List (Str × DSp) → Prop
  | [] => True
  | p :: r => Okd P w K mg base k p ∧ AllOk P w K mg base k r
section
variable {P : Program} {w : World} {K : PySem.W.Frag} {mg : Str → Option Value} {base : Heap} {k : Nat}
theorem Okd.up {p : Str × DSp} {j : Nat} (o : Okd P w K mg base j p) (h : j ≤ k) : Okd P w K mg base k p :=
  let ⟨a, b, c, i, hi, r⟩ := o
  ⟨a, b, c, i, Nat.le_trans hi h, r⟩
theorem AllOk.up {j : Nat} (h : j ≤ k) : ∀ {l : List (Str × DSp)}, AllOk P w K mg base j l → AllOk P w K mg base k l
  | [], _ => trivial
  | _ :: _, ⟨a, b⟩ => ⟨a.up h, b.up h⟩
theorem AllOk.get : ∀ {l : List (Str × DSp)}, AllOk P w K mg base k l → ∀ (i : Nat) (p : Str × DSp), l[i]? = some p → Okd P w K mg base k p
  | [], _, i, p, e => by simp at e
  | q :: l, ⟨a, b⟩, 0, p, e => by simp at e; subst e; exact a
  | q :: l, ⟨a, b⟩, i + 1, p, e => b.get i p (by simpa using e)
theorem AllOk.snoc : ∀ {l : List (Str × DSp)} {p : Str × DSp}, AllOk P w K mg base k l → Okd P w K mg base k p → AllOk P w K mg base k (l ++ [p])
  | [], _, _, o => ⟨o, trivial⟩
  | _ :: _, _, ⟨a, b⟩, o => ⟨a, b.snoc o⟩
theorem pr_of {fns : List (Str × DSp)} {gi : List (Str × Int)} {gs : List (Str × List Nat)} {bl : List Str} (a : AllOk P w K mg base k fns) (hb : ∀ x ∈ bl, mg x = none) (hi : ∀ x i, (x, i) ∈ gi → ∃ t, mg x = some (.int i t)) (hs : ∀ x s, (x, s) ∈ gs → ∃ t, mg x = some (.str (mkS s) t)) :
    Pr P w K mg base k ⟨fns, gi, gs, bl⟩ := ⟨fun i f sp e => a.get i _ e, hb, hi, hs⟩
/-- the next def -/
theorem okd_of {x : Str} {pa : Arguments} {bd : List Stmt} {sc : Scope} {fd : FuncData} {N ps : List Str} {fns : List (Str × DSp)} {gi : List (Str × Int)} {gs : List (Str × List Nat)} {bl : List Str} {e : S} {sp : DSp}
    (F : FunD K x x pa bd sc [] [] (He.ga K x) fd) (hm : mg x = some (.ref (He.ga K x))) (Fs : C8.scC N ps sc = true) (a : AllOk P w K mg base k fns) (hb : ∀ x ∈ bl, mg x = none) (hi : ∀ x i, (x, i) ∈ gi → ∃ t, mg x = some (.int i t)) (hs : ∀ x s, (x, s) ∈ gs → ∃ t, mg x = some (.str (mkS s) t))
    (hc : chkSs ⟨N, fns.map (·.1), gi, gs, bl⟩ sc e bd = true) (bi : Binds K fd ps []) (hl : ∀ ds h xq Q, sp ds h xq Q → ds.length = ps.length) (hq : ∀ ds h xq Q, sp ds h xq Q → body (fns.map (·.2)) e N.length ds h xq Q) :
    FnG P w K mg base (k + 1) (He.ga K x) fd ps (liftSp K sp) ∧ Okd P w K mg base (k + 1) (x, sp) := by
  have G : FnG P w K mg base (k + 1) (He.ga K x) fd ps (liftSp K sp) := def_ok F (C8.fnScope_by Fs) (pr_of a hb hi hs) hc hl hq
  exact ⟨G, _, _, _, _, Nat.le_refl _, hm, F.kp, G, bi⟩
end
/-- facts of names by a look -/
def isFree (x : Str) : He.Fa → Bool
  | .free y => decide (y = x)
  | _ => false
def isInt (x : Str) (i : Int) : He.Fa → Bool
  | .int y j => decide (y = x) && decide (j = i)
  | _ => false
def isTxt (x : Str) (s : Str) : He.Fa → Bool
  | .str y j => decide (y = x) && decide (j = s)
  | _ => false
section
variable {K : PySem.W.Frag} {h : Heap} {mg : Str → Option Value} {fa : List He.Fa} {fn : List He.DefD}
theorem says_mem (c : He.SaysD fa fn K) {f : He.Fa} (m : f ∈ fa) : f.ok K = true := by
  obtain ⟨i, hi, e⟩ := List.mem_iff_getElem.mp m
  exact c.fact i (by rw [List.getElem?_eq_getElem hi, e])
theorem blt_of (X : K.In h) (G : h.Ns mainGlobals mg) (c : He.SaysD fa fn K) {bl : List Str} (m : (bl.all fun x => fa.any (isFree x)) = true) : ∀ x ∈ bl, mg x = none := fun x hx => by
  obtain ⟨f, hf, e⟩ := List.any_eq_true.mp (List.all_eq_true.mp m x hx)
  have z := says_mem c hf
  cases f with
  | free y =>
    cases of_decide_eq_true (show decide (y = x) = true from e)
    exact He.free_ok X G z
  | _ => cases e
theorem gis_of (X : K.In h) (G : h.Ns mainGlobals mg) (c : He.SaysD fa fn K) {l : List (Str × Int)} (m : (l.all fun p => fa.any (isInt p.1 p.2)) = true) : ∀ x i, (x, i) ∈ l → ∃ t, mg x = some (.int i t) := fun x v hx => by
  obtain ⟨f, hf, e⟩ := List.any_eq_true.mp (List.all_eq_true.mp m _ hx)
  have z := says_mem c hf
  cases f with
  | int y j =>
    obtain ⟨e1, e2⟩ := Bool.and_eq_true_iff.mp (show (decide (y = x) && decide (j = v)) = true from e)
    cases of_decide_eq_true e1
    cases of_decide_eq_true e2
    exact He.int_ok X G z
  | _ => cases e
theorem gss_of (X : K.In h) (G : h.Ns mainGlobals mg) (c : He.SaysD fa fn K) {l : List (Str × List Nat)} (m : (l.all fun p => fa.any (isTxt p.1 (mkS p.2))) = true) : ∀ x s, (x, s) ∈ l → ∃ t, mg x = some (.str (mkS s) t) := fun x v hx => by
  obtain ⟨f, hf, e⟩ := List.any_eq_true.mp (List.all_eq_true.mp m _ hx)
  have z := says_mem c hf
  cases f with
  | str y j =>
    obtain ⟨e1, e2⟩ := Bool.and_eq_true_iff.mp (show (decide (y = x) && decide (j = mkS v)) = true from e)
    cases of_decide_eq_true e1
    cases of_decide_eq_true e2
    exact He.str_ok X G z
  | _ => cases e
end
end Lit
/-! Places: tuples of whole numbers; their texts. -/
namespace Lit
open PySem PySem.Spec PyProof.Rows L2
abbrev itup (is : List Int) : D := .tup (is.map D.int)
theorem flat_ints : ∀ is : List Int, (is.map D.int).all flatD = true
  | [] => rfl
  | _ :: is => by rw [List.map_cons, List.all_cons, flat_ints is] <;> rfl
theorem deref_tupF {h : PH} {ds : List D} (f : ds.all flatD = true) : deref 12 h (.tup ds) = some (.tup ds) := by
  show (ds.mapM (deref 11 h)).map D.tup = _
  rw [mapM_flat f]
  rfl
theorem toPDs_ints : ∀ is : List Int, toPDs (is.map D.int) = is.map PyData.int
  | [] => by simp only [List.map_nil, toPDs]
  | i :: is => by simp only [List.map_cons, toPDs, toPD, toPDs_ints is]
theorem lay_ints : ∀ is : List Int, PyData.canLayAll0 (is.map PyData.int) = true
  | [] => by simp only [List.map_nil, PyData.canLayAll0]
  | i :: is => by simp only [List.map_cons, PyData.canLayAll0, PyData.canLay0, lay_ints is, Bool.and_self]
theorem depth_ints : ∀ is : List Int, PyData.depthAll (is.map PyData.int) = 0
  | [] => by simp only [List.map_nil, PyData.depthAll]
  | i :: is => by simp only [List.map_cons, PyData.depthAll, PyData.depth, depth_ints is, Nat.max_self]
theorem sane_itup (is : List Int) : sane (itup is) = true := by
  unfold sane SeqAt.shaped
  simp only [toPD, toPDs_ints, PyData.canLay0, PyData.depth, lay_ints is, depth_ints]
  rfl
theorem eqvAll_ints : ∀ as bs : List Int, PyData.eqvAll (as.map PyData.int) (bs.map PyData.int) = decide (as = bs)
  | [], [] => by simp [PyData.eqvAll]
  | [], _ :: _ => by simp [PyData.eqvAll]
  | _ :: _, [] => by simp [PyData.eqvAll]
  | a :: as, b :: bs => by
    simp only [List.map_cons, PyData.eqvAll, PyData.eqv, eqvAll_ints as bs, List.cons.injEq]
    by_cases e : a = b <;> simp [e]
/-- a place or None -/
def pD : Option (List Int) → D
  | none => .non
  | some is => itup is
theorem deref_pD {h : PH} : ∀ o, deref 12 h (pD o) = some (pD o)
  | none => rfl
  | some is => deref_tupF (flat_ints is)
theorem sane_pD : ∀ o, sane (pD o) = true
  | none => rfl
  | some is => sane_itup is
theorem eqv_pD : ∀ a b, eqv (pD a) (pD b) = decide (a = b)
  | none, none => by simp [eqv, pD, toPD, PyData.eqv]
  | none, some _ => by simp [eqv, pD, toPD, PyData.eqv]
  | some _, none => by simp [eqv, pD, toPD, PyData.eqv]
  | some a, some b => by
    unfold eqv
    simp only [pD, toPD, toPDs_ints, PyData.eqv, eqvAll_ints, Option.some.injEq]
section
variable {h : PH} {R : Bool → Prop} {a b : Option (List Int)}
theorem eq_pD : cmpD .eq (pD a) (pD b) h R = R (decide (a = b)) := by
  have e : cmpD .eq (pD a) (pD b) h R = deepEq h (pD a) (pD b) R := by cases a <;> cases b <;> rfl
  rw [e, deepEq_eq (deref_pD a) (deref_pD b) (sane_pD a) (sane_pD b), eqv_pD]
theorem ne_pD : cmpD .ne (pD a) (pD b) h R = R (!decide (a = b)) := by
  have e : cmpD .ne (pD a) (pD b) h R = deepEq h (pD a) (pD b) fun b => R (!b) := by cases a <;> cases b <;> rfl
  rw [e, deepEq_eq (deref_pD a) (deref_pD b) (sane_pD a) (sane_pD b), eqv_pD]
theorem eq_itup {x y : List Int} : cmpD .eq (itup x) (itup y) h R = R (decide (x = y)) := by
  rw [show cmpD .eq (itup x) (itup y) h R = cmpD .eq (pD (some x)) (pD (some y)) h R from rfl, eq_pD]
  simp only [Option.some.injEq]
end
theorem cut_take {α : Type} (l : List α) (n : Nat) : cutL l none (some (n : Int)) = l.take n := by
  unfold cutL
  rw [HT.sIx_nat, HT.sIx_none, List.drop_zero, Nat.sub_zero]
  by_cases h : n ≤ l.length
  · rw [Nat.min_eq_left h]
  · rw [Nat.min_eq_right (by omega), List.take_of_length_le (Nat.le_refl _), List.take_of_length_le (by omega)]
theorem sl_tup {ds : List D} {lo hi : Option Int} {h : PH} {Q : D → PH → Prop} : slD (.tup ds) lo hi h Q = Q (.tup (cutL ds lo hi)) h := rfl
theorem len_tup {ds : List D} {h : PH} {Q : D → PH → Prop} : b1D .len (.tup ds) h Q = Q (.int ds.length) h := rfl
/-! ### is_within -/
def E_within : S := .cons (.ret (.cmp .eq (.sl (.var 1) .nil (.b1 .len (.var 0))) (.var 0))) .nil
def spWithin : DSp := fun ds h _ Q => ∃ as bs : List Int, ds = [itup as, itup bs] ∧ Q (.bl (decide (bs.take as.length = as))) h
theorem b_within (sps : List DSp) (ds h xq Q) (q : spWithin ds h xq Q) : body sps E_within 2 ds h xq Q := by
  obtain ⟨as, bs, rfl, hQ⟩ := q
  simp [body, E_within, startD]
  rw [len_tup]
  simp only [List.length_map]
  rw [sl_tup, cut_take, ← List.map_take]
  rw [show cmpD .eq (.tup ((bs.take as.length).map D.int)) (.tup (as.map D.int)) h (fun k => Q (.bl k) h) = _ from eq_itup (x := bs.take as.length) (y := as)]
  exact hQ
/-! ### place_text -/
def ptext (is : List Int) : List Nat := if is = [] then [46] else TL.joinL [46] (is.map showN)
def strAll (i : Nat) : E := .comp (.itL (.var 0)) (.nm i) [i] .nil (.b1 .str (.var i))
theorem str_all (sps : List DSp) {ρ : Rho} {h : PH} {xq : XQ} {Q : D → PH → Prop} {j : Nat} {is : List Int} {i : Nat} (hi : i < ρ.length) (h0 : ρ[j]? = some (some (itup is))) (hl : is.length ≤ sizeLine) (hb : ∀ x ∈ is, x.natAbs.log2 < 1920)
    (q : ∀ p h', h p = none → h' p = some (.lst ((is.map showN).map D.str)) → Ext h h' → Q (.ref p) h') : rdE sps (.comp (.itL (.var j)) (.nm i) [i] .nil (.b1 .str (.var i))) ρ h xq Q := by
  simp only [rdE_comp, rdI_itL, rdE_var, h0]
  refine compLoop_map (fun d => match d with
    | .int x => some (.str (showN x))
    | _ => none) (fun h' => h' = h) (fun _ _ => trivial) _ _ _ ?_ (by simpa using hl) rfl ?_
  · intro d hd h' eh
    subst eh
    obtain ⟨x, hx, rfl⟩ := List.mem_map.mp hd
    refine ⟨_, asg_nm, fun P hP => ?_⟩
    have e : (List.set (wipeR ρ [i]) i (some (D.int x)))[i]? = some (some (.int x)) := by simp [wipeR, hi]
    simp only [rdC_nil, rdE_b1, rdE_var, e]
    exact ⟨hb x hx, hP _ rfl⟩
  · intro h' eh p h2 n e x
    subst eh
    refine q p h2 n ?_ x
    rw [e, List.nil_append, List.filterMap_map, List.map_map]
    congr 2
    clear e q h0 hb hl
    induction is with
    | nil => rfl
    | cons a is ih => rw [List.filterMap_cons, List.map_cons]; exact congrArg _ ih
def E_ptext : S := .cons (.ife (.cmp .eq (.var 0) (.tup .nil)) (.cons (.ret (.str [46])) .nil) .nil) (.cons (.ret (.mth .join (.str [46]) (.cons (strAll 1) .nil))) .nil)
def smallI (is : List Int) : Prop := is.length ≤ 1000 ∧ ∀ x ∈ is, 0 ≤ x ∧ x < 1000
def spPtext : DSp := fun ds h _ Q => ∃ is : List Int, ds = [itup is] ∧ smallI is ∧ ∀ h', Ext h h' → Q (.str (ptext is)) h'
theorem show_ok : ∀ n < 1000, ((∀ c ∈ showN (n : Nat), 48 ≤ c ∧ c ≤ 57) ∧ 1 ≤ (showN (n : Nat)).length ∧ (showN (n : Nat)).length ≤ 3) ∧ ((n : Nat) : Int).natAbs.log2 < 1920 := by decide +kernel
theorem show_sm {r : Int} (h0 : 0 ≤ r) (h1 : r < 1000) : (∀ c ∈ showN r, 48 ≤ c ∧ c ≤ 57) ∧ 1 ≤ (showN r).length ∧ (showN r).length ≤ 3 ∧ r.natAbs.log2 < 1920 := by
  obtain ⟨n, rfl⟩ := Int.eq_ofNat_of_zero_le h0
  have := show_ok n (by omega)
  exact ⟨this.1.1, this.1.2.1, this.1.2.2, this.2⟩
theorem sum_show {is : List Int} (h : ∀ x ∈ is, 0 ≤ x ∧ x < 1000) : ((is.map showN).map (·.length)).sum ≤ 3 * is.length := by
  induction is with
  | nil => simp
  | cons a is ih =>
    have := (show_sm (h a (by simp)).1 (h a (by simp)).2).2.2.1
    have := ih fun x hx => h x (by simp [hx])
    simp only [List.map_cons, List.sum_cons, List.length_cons]
    omega
theorem b_ptext (sps : List DSp) (ds h xq Q) (q : spPtext ds h xq Q) : body sps E_ptext 2 ds h xq Q := by
  obtain ⟨is, rfl, ⟨hl, hb⟩, hQ⟩ := q
  simp [body, E_ptext, startD]
  rw [show cmpD .eq (.tup (is.map D.int)) (.tup []) h = cmpD .eq (itup is) (itup []) h from rfl, eq_itup]
  by_cases e : is = []
  · simp only [e, decide_true]
    have := hQ h .refl
    simpa [ptext, e] using this
  · simp only [e, decide_false]
    refine ⟨rfl, str_all sps (ρ := [some (itup is), none]) (by simp) rfl (by rw [sz]; omega) (fun x hx => (show_sm (hb x hx).1 (hb x hx).2).2.2.2) fun p h1 n1 e1 x1 => ?_⟩
    rw [join_mth e1]
    refine ⟨?_, ?_⟩
    · have := sum_show hb
      simp only [List.length_map, List.length_cons, List.length_nil] at this ⊢
      omega
    · have := hQ h1 x1
      simpa [ptext, e] using this
end Lit
/-! read_place. -/
namespace Lit
open PySem PySem.Spec PyProof.Rows L2
def good (p : List Nat) : Bool := okNum p && decide (numV p ≤ 59)
def rp (s : List Nat) : Option (List Int) := if s = [46] then some [] else if (decide ((splS [46] s).length < 8) && (splS [46] s).all good) = true then some ((splS [46] s).map fun p => (numV p : Int)) else none
def rpD : D → Option (List Int)
  | .str s => rp s
  | _ => none
theorem spl_sub {b : List Nat} : ∀ {l acc : List Nat} {k : Nat}, ∀ p ∈ TL.spl b k acc l, p.length ≤ acc.length + l.length
  | [], acc, k, p, hp => by rw [TL.spl_nil] at hp; simp at hp; subst hp; simp
  | c :: r, acc, 0, p, hp => by
    cases e : TL.pre b (c :: r) with
    | true =>
      rw [TL.spl_hit e] at hp
      rcases List.mem_cons.mp hp with rfl | hp
      · omega
      · have := spl_sub (b := b) (l := r) (acc := []) p hp
        simp only [List.length_cons, List.length_nil] at this ⊢
        omega
    | false =>
      rw [TL.spl_miss e] at hp
      have := spl_sub (b := b) (l := r) (acc := acc ++ [c]) p hp
      simp only [List.length_cons, List.length_append, List.length_nil] at this ⊢
      omega
  | c :: r, acc, k + 1, p, hp => by
    have := spl_sub (b := b) (l := r) (acc := acc) (k := k) p hp
    simp only [List.length_cons]
    omega
theorem spl_many {b : List Nat} : ∀ {l acc : List Nat} {k : Nat}, (TL.spl b k acc l).length ≤ l.length + 1
  | [], acc, k => by rw [TL.spl_nil]; simp
  | c :: r, acc, 0 => by
    cases e : TL.pre b (c :: r) with
    | true =>
      rw [TL.spl_hit e]
      have := spl_many (b := b) (l := r) (acc := []) (k := b.length - 1)
      simp only [List.length_cons]
      omega
    | false =>
      rw [TL.spl_miss e]
      have := spl_many (b := b) (l := r) (acc := acc ++ [c]) (k := 0)
      simp only [List.length_cons]
      omega
  | c :: r, acc, k + 1 => by
    have := spl_many (b := b) (l := r) (acc := acc) (k := k)
    simp only [List.length_cons]
    exact Nat.le_succ_of_le this
def badD : D → Bool
  | .int n => decide (59 < n)
  | _ => true
theorem bad_num (p : List Nat) : badD (numD (.str p)) = !good p := by
  simp only [numD, good]
  cases okNum p with
  | false => rfl
  | true =>
    simp only [if_true, badD, Bool.true_and]
    by_cases z : numV p ≤ 59
    · have : ¬ (59 : Int) < (numV p : Nat) := by omega
      simp [z, this]
    · have : (59 : Int) < (numV p : Nat) := by omega
      simp [z, this]
def strF (g : List Nat → D) : D → Option D
  | .str p => some (g p)
  | _ => none
theorem fm_strF (g : List Nat → D) : ∀ ps : List (List Nat), (ps.map D.str).filterMap (strF g) = ps.map g
  | [] => rfl
  | p :: ps => by rw [List.map_cons, List.filterMap_cons, List.map_cons, fm_strF g ps] <;> rfl
def E_read (ci : Nat) : S := .cons (.ife (.lnot (.isi (.var 0) .str)) (.cons (.ret .non) .nil) .nil) (.cons (.ife (.cmp .eq (.var 0) (.str [46])) (.cons (.ret (.tup .nil)) .nil) .nil) (.cons (.setC 1 (.comp (.itL (.mth .split (.var 0) (.cons (.str [46]) .nil))) (.nm 2) [2] .nil (.call ci (.cons (.var 2) .nil))))
  (.cons (.ife (.lor (.cons (.cmp .ge (.b1 .len (.var 1)) (.gint "MOST_DEEP" 8)) (.cons (.b1 .any (.comp (.itL (.var 1)) (.nm 3) [3] .nil (.lor (.cons (.cmp .is (.var 3) .non) (.cons (.cmp .gt (.var 3) (.gint "MOST_AT" 59)) .nil))))) .nil))) (.cons (.ret .non) .nil) .nil) (.cons (.ret (.b1 .tuple (.var 1))) .nil))))
def spRead : DSp := fun ds h _ Q => ∃ d, ds = [d] ∧ isData d h = true ∧ shortD2 d ∧ ∀ h', Ext h h' → Q (pD (rpD d)) h'
theorem len_lst {p : Addr} {ds : List D} {h : PH} {Q : D → PH → Prop} (e : h p = some (.lst ds)) : b1D .len (.ref p) h Q = Q (.int ds.length) h := by simp only [b1D, rdQ, rdL, e]
theorem b_read (sps : List DSp) (ci : Nat) (ec : sps[ci]? = some spNumber) (ds h xq Q) (q : spRead ds h xq Q) : body sps (E_read ci) 4 ds h xq Q := by
  obtain ⟨d, rfl, hd, hs, hQ⟩ := q
  cases d with
  | str s =>
    have hs : s.length + 2 ≤ sizeLine := hs
    simp [body, E_read, startD, isiD, isData]
    by_cases e0 : s = [46]
    · simp only [e0, decide_true]
      have := hQ h .refl
      simp only [rpD, rp, e0, if_true, pD] at this
      exact this
    simp only [e0, decide_false]
    refine ⟨rfl, ?_⟩
    rw [split_mth (s := s) (b := [46]) (by simp) (by decide)]
    refine ⟨by simp, hs, fun q1 h1 n1 e1 x1 => ?_⟩
    try dsimp only
    rw [rdL_ref e1]
    try dsimp only
    have sl : (splS [46] s).length ≤ s.length + 1 := spl_many (b := [46]) (l := s) (acc := []) (k := 0)
    refine compLoop_map (strF fun p => numD (.str p)) (fun h' => Ext h1 h') (fun h' x => by rw [rdL_ref (x _ _ e1)]) _ _ _ ?_ (by simp only [List.length_nil, List.length_map]; omega) .refl ?_
    · intro d hd h' x
      obtain ⟨p, hp, rfl⟩ := List.mem_map.mp hd
      have pl : p.length ≤ s.length := by
        have := spl_sub (b := [46]) (l := s) (acc := []) (k := 0) p hp
        simpa using this
      refine ⟨_, asg_nm, fun P hP => ?_⟩
      simp [wipeR]
      exact spAt_ok ec ⟨_, rfl, rfl, by show p.length ≤ sizeLine; omega, fun h2 x2 => hP h2 (x.trans x2)⟩
    · intro h2 x2 p3 h3 n3 e3 x3
      rw [List.nil_append, fm_strF] at e3
      try dsimp only
      rw [len_lst e3]
      simp only [List.length_map, cmp_ge]
      have x03 := (x1.trans x2).trans x3
      by_cases l8 : (splS [46] s).length < 8
      · have l8' : ¬ (8 : Int) ≤ ((splS [46] s).length : Int) := by omega
        simp only [l8', decide_false]
        rw [rdL_ref e3]
        try dsimp only
        refine compLoop_map (fun d => some (.bl (badD d))) (fun h' => Ext h3 h') (fun h' x => by rw [rdL_ref (x _ _ e3)]) _ _ _ ?_ (by simp only [List.length_nil, List.length_map]; omega) .refl ?_
        · intro d hd h' x
          obtain ⟨p, hp, rfl⟩ := List.mem_map.mp hd
          refine ⟨_, asg_nm, fun P hP => ?_⟩
          have hP := hP h' x
          simp [wipeR]
          cases en : numD (.str p) with
          | int n =>
            rw [en] at hP
            simpa [noneD, badD] using hP
          | non =>
            rw [en] at hP
            simpa [noneD, badD] using hP
          | _ => simp only [numD] at en; split at en <;> cases en
        · intro h4 x4 p5 h5 n5 e5 x5
          have fm : ((splS [46] s).map fun p => numD (.str p)).filterMap (fun d => some (D.bl (badD d))) = ((splS [46] s).map fun p => !good p).map D.bl := by
            rw [fm_some, List.map_map, List.map_map]
            refine List.map_congr_left fun p _ => ?_
            simp only [Function.comp, bad_num]
          rw [List.nil_append, fm] at e5
          try dsimp only
          have an : ∀ Q' : D → PH → Prop, b1D .any (.ref p5) h5 Q' = Q' (.bl (((splS [46] s).map fun p => !good p).any id)) h5 := fun Q' => by simp only [b1D, rdL_ref e5, bls_bl]
          rw [an]
          have x05 := (x03.trans x4).trans x5
          have av : (((splS [46] s).map fun p => !good p).any id) = !((splS [46] s).all good) := by
            rw [List.any_map, List.all_eq_not_any_not, Bool.not_not]
            rfl
          rw [av]
          have hq := hQ h5 x05
          simp only [tru_bl]
          cases ea : (splS [46] s).all good with
          | false => simpa [rpD, rp, e0, ea, pD] using hq
          | true =>
            have e3' : h5 p3 = some (.lst (((splS [46] s).map fun p => (numV p : Int)).map D.int)) := by
              rw [x5 _ _ (x4 _ _ e3), List.map_map]
              congr 2
              refine List.map_congr_left fun p hp => ?_
              have g := List.all_eq_true.mp ea p hp
              simp only [good, Bool.and_eq_true_iff] at g
              simp only [Function.comp, numD, g.1, if_true]
            simp only [Bool.not_true]
            have tq : ∀ Q' : D → PH → Prop, b1D .tuple (.ref p3) h5 Q' = Q' (itup ((splS [46] s).map fun p => (numV p : Int))) h5 := fun Q' => by simp only [b1D, rdQ, rdL_ref e3']
            rw [tq]
            simpa [rpD, rp, e0, ea, l8, pD] using hq
      · have l8' : (8 : Int) ≤ ((splS [46] s).length : Int) := by omega
        simp only [l8', decide_true]
        have hq := hQ h3 x03
        simpa [rpD, rp, e0, l8, pD] using hq
  | ref a =>
    have hq := hQ h .refl
    simp [body, E_read, startD, hd]
    exact isi_ref hd rfl (fun _ => by simpa [rpD, pD] using hq) (fun _ _ z => nomatch z) (fun z => nomatch z)
  | _ => simpa [body, E_read, startD, isiD, isData, rpD, pD] using hQ h .refl
end Lit
namespace K04
open PySem PySem.Spec PyProof.Rows L2 Lit
def top (i : Nat) : Stmt := PySem.Challenge.pw_marksthrough_k04_places_told.main.body.getD i (.Pass ⟨0, 0, 0, 0⟩)
-- _law_mixed(cell, k)  slots 0 cell, 1 k
def e__law_mixed : S := .cons (.set (.nm 0) (.op .add (.op .add (.op .mod (.var 0) (.int 1000000007)) (.op .mul (.int 7919) (.var 1))) (.int 13))) (.cons (.ret (.op .mod (.op .mul (.op .mod (.op .mul (.var 0) (.var 0)) (.int 1000000007)) (.int 48271)) (.int 2147483647))) .nil)
def n__law_mixed : List Str := ["cell", "k"]
def b__law_mixed : List Str := []
def i__law_mixed : List (Str × Int) := []
def s__law_mixed : List (Str × List Nat) := []
theorem c__law_mixed : chkSs ⟨n__law_mixed, [], i__law_mixed, s__law_mixed, b__law_mixed⟩ (defScope (top 12)) e__law_mixed (defBody (top 12)) = true := by decide +kernel
theorem sc__law_mixed : C8.scC n__law_mixed ["cell", "k"] (defScope (top 12)) = true := by decide +kernel
-- _law_draw(cell, k)  slots 0 cell, 1 k
def e__law_draw : S := .cons (.ret (.dic (.cons (.str [108, 101, 102, 116]) (.cons (.ife (.cmp .ge (.var 0) (.op .pow (.int 10) (.int 18))) (.var 0) (.int 0)) (.cons (.str [115, 101, 101, 100]) (.cons (.call 0 (.cons (.var 0) (.cons (.var 1) .nil))) (.cons (.str [116, 117, 114, 110, 115]) (.cons (.var 1) .nil)))))))) .nil
def n__law_draw : List Str := ["cell", "k"]
def b__law_draw : List Str := []
def i__law_draw : List (Str × Int) := []
def s__law_draw : List (Str × List Nat) := []
theorem c__law_draw : chkSs ⟨n__law_draw, ["_law_mixed"], i__law_draw, s__law_draw, b__law_draw⟩ (defScope (top 13)) e__law_draw (defBody (top 13)) = true := by decide +kernel
theorem sc__law_draw : C8.scC n__law_draw ["cell", "k"] (defScope (top 13)) = true := by decide +kernel
-- _law_digit(state, many)  slots 0 state, 1 many, 2 found, 3 j
def e__law_digit : S := .cons (.ife (.cmp .eq (.ix (.var 0) (.str [108, 101, 102, 116])) (.int 0)) (.cons (.setI (.var 0) (.str [116, 117, 114, 110, 115]) (.op .add (.ix (.var 0) (.str [116, 117, 114, 110, 115])) (.int 1))) (.cons (.for_ (.itR1 (.int 4)) (.nm 3) (.cons (.setI (.var 0) (.str [108, 101, 102, 116]) (.op .add (.op .mul (.ix (.var 0) (.str [108, 101, 102, 116])) (.int 2147483647)) (.call 0 (.cons (.ix (.var 0) (.str [115, 101, 101, 100])) (.cons (.op .add (.op .mul (.int 4) (.ix (.var 0) (.str [116, 117, 114, 110, 115]))) (.var 3)) .nil))))) .nil)) .nil)) .nil) (.cons (.set (.nm 2) (.op .mod (.ix (.var 0) (.str [108, 101, 102, 116])) (.var 1))) (.cons (.setI (.var 0) (.str [108, 101, 102, 116]) (.op .fdiv (.ix (.var 0) (.str [108, 101, 102, 116])) (.var 1))) (.cons (.ret (.var 2)) .nil)))
def n__law_digit : List Str := ["state", "many", "found", "j"]
def b__law_digit : List Str := ["range"]
def i__law_digit : List (Str × Int) := []
def s__law_digit : List (Str × List Nat) := []
theorem c__law_digit : chkSs ⟨n__law_digit, ["_law_mixed", "_law_draw"], i__law_digit, s__law_digit, b__law_digit⟩ (defScope (top 14)) e__law_digit (defBody (top 14)) = true := by decide +kernel
theorem sc__law_digit : C8.scC n__law_digit ["state", "many"] (defScope (top 14)) = true := by decide +kernel
-- _law_place(state, many)  slots 0 state, 1 many, 2 k
def e__law_place : S := .cons (.ret (.b1 .tuple (.comp (.itR1 (.var 1)) (.nm 2) [2] .nil (.ix (.lst (.cons (.int 0) (.cons (.int 1) (.cons (.int 59) (.cons (.call 2 (.cons (.var 0) (.cons (.int 60) .nil))) .nil))))) (.call 2 (.cons (.var 0) (.cons (.int 4) .nil))))))) .nil
def n__law_place : List Str := ["state", "many", "k"]
def b__law_place : List Str := ["range", "tuple"]
def i__law_place : List (Str × Int) := []
def s__law_place : List (Str × List Nat) := []
theorem c__law_place : chkSs ⟨n__law_place, ["_law_mixed", "_law_draw", "_law_digit"], i__law_place, s__law_place, b__law_place⟩ (defScope (top 15)) e__law_place (defBody (top 15)) = true := by decide +kernel
theorem sc__law_place : C8.scC n__law_place ["state", "many"] (defScope (top 15)) = true := by decide +kernel
-- is_within(place, other)  slots 0 place, 1 other
def e_is_within : S := .cons (.ret (.cmp .eq (.sl (.var 1) .nil (.b1 .len (.var 0))) (.var 0))) .nil
def n_is_within : List Str := ["place", "other"]
def b_is_within : List Str := ["len"]
def i_is_within : List (Str × Int) := []
def s_is_within : List (Str × List Nat) := []
theorem c_is_within : chkSs ⟨n_is_within, ["_law_mixed", "_law_draw", "_law_digit", "_law_place"], i_is_within, s_is_within, b_is_within⟩ (defScope (top 6)) e_is_within (defBody (top 6)) = true := by decide +kernel
theorem sc_is_within : C8.scC n_is_within ["place", "other"] (defScope (top 6)) = true := by decide +kernel
-- _law_bent(state, word)  slots 0 state, 1 word, 2 at, 3 every, 4 sign
def e__law_bent : S := .cons (.set (.nm 2) (.call 2 (.cons (.var 0) (.cons (.op .add (.b1 .len (.var 1)) (.int 1)) .nil)))) (.cons (.set (.nm 3) (.str [33, 34, 35, 36, 38, 39, 40, 41, 42, 43, 44, 45, 46, 47, 48, 49, 50, 51, 52, 53, 54, 55, 56, 57, 58, 59, 60, 61, 62, 63, 64, 65, 66, 67, 68, 69, 70, 71, 72, 73, 74, 75, 76, 77, 78, 79, 80, 81, 82, 83, 84, 85, 86, 87, 88, 89, 90, 91, 92, 93, 94, 95, 96, 97, 98, 99, 100, 101, 102, 103, 104, 105, 106, 107, 108, 109, 110, 111, 112, 113, 114, 115, 116, 117, 118, 119, 120, 121, 122, 123, 124, 125, 126, 32, 10])) (.cons (.set (.nm 4) (.ix (.lst (.cons (.str [46]) (.cons (.str [48]) (.cons (.str [53]) (.cons (.str [57]) (.cons (.str []) (.cons (.ix (.var 3) (.call 2 (.cons (.var 0) (.cons (.b1 .len (.var 3)) .nil)))) .nil))))))) (.call 2 (.cons (.var 0) (.cons (.int 6) .nil))))) (.cons (.ret (.op .add (.op .add (.sl (.var 1) .nil (.var 2)) (.var 4)) (.sl (.var 1) (.op .add (.var 2) (.call 2 (.cons (.var 0) (.cons (.int 2) .nil)))) .nil))) .nil)))
def n__law_bent : List Str := ["state", "word", "at", "every", "sign"]
def b__law_bent : List Str := ["len"]
def i__law_bent : List (Str × Int) := []
def s__law_bent : List (Str × List Nat) := []
theorem c__law_bent : chkSs ⟨n__law_bent, ["_law_mixed", "_law_draw", "_law_digit", "_law_place", "is_within"], i__law_bent, s__law_bent, b__law_bent⟩ (defScope (top 17)) e__law_bent (defBody (top 17)) = true := by decide +kernel
theorem sc__law_bent : C8.scC n__law_bent ["state", "word"] (defScope (top 17)) = true := by decide +kernel
-- place_text(place)  slots 0 place, 1 at
def e_place_text : S := .cons (.ife (.cmp .eq (.var 0) (.tup .nil)) (.cons (.ret (.str [46])) .nil) .nil) (.cons (.ret (.mth .join (.str [46]) (.cons (.comp (.itL (.var 0)) (.nm 1) [1] .nil (.b1 .str (.var 1))) .nil))) .nil)
def n_place_text : List Str := ["place", "at"]
def b_place_text : List Str := ["str"]
def i_place_text : List (Str × Int) := []
def s_place_text : List (Str × List Nat) := []
theorem c_place_text : chkSs ⟨n_place_text, ["_law_mixed", "_law_draw", "_law_digit", "_law_place", "is_within", "_law_bent"], i_place_text, s_place_text, b_place_text⟩ (defScope (top 9)) e_place_text (defBody (top 9)) = true := by decide +kernel
theorem sc_place_text : C8.scC n_place_text ["place"] (defScope (top 9)) = true := by decide +kernel
-- number_of(word)  slots 0 word, 1 sign
def e_number_of : S := .cons (.ife (.lor (.cons (.lnot (.isi (.var 0) .str)) (.cons (.lnot (.chain .le .le (.int 1) (.b1 .len (.var 0)) (.gint "MOST_FIGURES" 2))) .nil))) (.cons (.ret .non) .nil) .nil) (.cons (.ife (.lor (.cons (.lnot (.b1 .all (.comp (.itL (.var 0)) (.nm 1) [1] .nil (.cmp .isin (.var 1) (.gstr "FIGURES" [48, 49, 50, 51, 52, 53, 54, 55, 56, 57]))))) (.cons (.land (.cons (.cmp .eq (.ix (.var 0) (.int 0)) (.str [48])) (.cons (.cmp .ne (.var 0) (.str [48])) .nil))) .nil))) (.cons (.ret .non) .nil) .nil) (.cons (.ret (.b1 .int (.var 0))) .nil))
def n_number_of : List Str := ["word", "sign"]
def b_number_of : List Str := ["all", "int", "isinstance", "len", "str"]
def i_number_of : List (Str × Int) := [("MOST_FIGURES", 2)]
def s_number_of : List (Str × List Nat) := [("FIGURES", [48, 49, 50, 51, 52, 53, 54, 55, 56, 57])]
theorem c_number_of : chkSs ⟨n_number_of, ["_law_mixed", "_law_draw", "_law_digit", "_law_place", "is_within", "_law_bent", "place_text"], i_number_of, s_number_of, b_number_of⟩ (defScope (top 3)) e_number_of (defBody (top 3)) = true := by decide +kernel
theorem sc_number_of : C8.scC n_number_of ["word"] (defScope (top 3)) = true := by decide +kernel
-- read_place(text)  slots 0 text, 1 found, 2 word, 3 at
def e_read_place : S := .cons (.ife (.lnot (.isi (.var 0) .str)) (.cons (.ret .non) .nil) .nil) (.cons (.ife (.cmp .eq (.var 0) (.str [46])) (.cons (.ret (.tup .nil)) .nil) .nil) (.cons (.setC 1 (.comp (.itL (.mth .split (.var 0) (.cons (.str [46]) .nil))) (.nm 2) [2] .nil (.call 7 (.cons (.var 2) .nil)))) (.cons (.ife (.lor (.cons (.cmp .ge (.b1 .len (.var 1)) (.gint "MOST_DEEP" 8)) (.cons (.b1 .any (.comp (.itL (.var 1)) (.nm 3) [3] .nil (.lor (.cons (.cmp .is (.var 3) .non) (.cons (.cmp .gt (.var 3) (.gint "MOST_AT" 59)) .nil))))) .nil))) (.cons (.ret .non) .nil) .nil) (.cons (.ret (.b1 .tuple (.var 1))) .nil))))
def n_read_place : List Str := ["text", "found", "word", "at"]
def b_read_place : List Str := ["any", "isinstance", "len", "str", "tuple"]
def i_read_place : List (Str × Int) := [("MOST_AT", 59), ("MOST_DEEP", 8)]
def s_read_place : List (Str × List Nat) := []
theorem c_read_place : chkSs ⟨n_read_place, ["_law_mixed", "_law_draw", "_law_digit", "_law_place", "is_within", "_law_bent", "place_text", "number_of"], i_read_place, s_read_place, b_read_place⟩ (defScope (top 10)) e_read_place (defBody (top 10)) = true := by decide +kernel
theorem sc_read_place : C8.scC n_read_place ["text"] (defScope (top 10)) = true := by decide +kernel
-- _law_read(word)  slots 0 word, 1 found, 2 part, 3 others, 4 ten, 5 sign
def e__law_read : S := .cons (.ife (.cmp .eq (.var 0) (.str [46])) (.cons (.ret (.tup .nil)) .nil) .nil) (.cons (.set (.nm 1) (.lst .nil)) (.cons (.for_ (.itL (.mth .split (.var 0) (.cons (.str [46]) .nil))) (.nm 2) (.cons (.setC 3 (.comp (.itL (.var 2)) (.nm 5) [5] (.cons (.cmp .notin (.var 5) (.str [48, 49, 50, 51, 52, 53, 54, 55, 56, 57])) .nil) (.var 5))) (.cons (.ife (.lor (.cons (.cmp .eq (.var 2) (.str [])) (.cons (.cmp .ne (.var 3) (.lst .nil)) (.cons (.cmp .gt (.b1 .len (.var 2)) (.int 2)) (.cons (.land (.cons (.cmp .eq (.b1 .len (.var 2)) (.int 2)) (.cons (.cmp .eq (.ix (.var 2) (.int 0)) (.str [48])) .nil))) .nil))))) (.cons (.ret .non) .nil) .nil) (.cons (.set (.nm 4) (.op .mul (.mth .sindex (.str [48, 49, 50, 51, 52, 53, 54, 55, 56, 57]) (.cons (.ix (.var 2) (.int 0)) .nil)) (.op .sub (.b1 .len (.var 2)) (.int 1)))) (.cons (.expr (.mth .append (.var 1) (.cons (.op .add (.op .mul (.int 10) (.var 4)) (.mth .sindex (.str [48, 49, 50, 51, 52, 53, 54, 55, 56, 57]) (.cons (.ix (.var 2) (.neg (.int 1))) .nil))) .nil))) .nil))))) (.cons (.ret (.ife (.land (.cons (.cmp .lt (.b1 .len (.var 1)) (.int 8)) (.cons (.cmp .lt (.b1 .maxL (.var 1)) (.int 60)) .nil))) (.b1 .tuple (.var 1)) .non)) .nil)))
def n__law_read : List Str := ["word", "found", "part", "others", "ten", "sign"]
def b__law_read : List Str := ["len", "max", "tuple"]
def i__law_read : List (Str × Int) := []
def s__law_read : List (Str × List Nat) := []
theorem c__law_read : chkSs ⟨n__law_read, ["_law_mixed", "_law_draw", "_law_digit", "_law_place", "is_within", "_law_bent", "place_text", "number_of", "read_place"], i__law_read, s__law_read, b__law_read⟩ (defScope (top 16)) e__law_read (defBody (top 16)) = true := by decide +kernel
theorem sc__law_read : C8.scC n__law_read ["word"] (defScope (top 16)) = true := by decide +kernel
-- _law_right(state, one, other)  slots 0 state, 1 one, 2 other, 3 word, 4 found, 5 begins, 6 again, 7 at
def e__law_right : S := .cons (.set (.nm 3) (.ife (.cmp .eq (.var 1) (.tup .nil)) (.str [46]) (.mth .join (.str [46]) (.cons (.comp (.itL (.var 1)) (.nm 7) [7] .nil (.b1 .str (.var 7))) .nil)))) (.cons (.ife (.lor (.cons (.cmp .ne (.call 6 (.cons (.var 1) .nil)) (.var 3)) (.cons (.cmp .ne (.call 8 (.cons (.var 3) .nil)) (.var 1)) (.cons (.cmp .ne (.b1 .repr (.call 8 (.cons (.var 3) .nil))) (.b1 .repr (.var 1))) .nil)))) (.cons (.ret (.bl false)) .nil) .nil) (.cons (.set (.nm 4) (.lst (.cons (.call 4 (.cons (.var 1) (.cons (.var 2) .nil))) (.cons (.call 4 (.cons (.var 2) (.cons (.var 1) .nil))) (.cons (.call 4 (.cons (.var 1) (.cons (.var 1) .nil))) (.cons (.call 4 (.cons (.tup .nil) (.cons (.var 2) .nil))) .nil)))))) (.cons (.set (.nm 5) (.lst (.cons (.cmp .eq (.sl (.var 2) .nil (.b1 .len (.var 1))) (.var 1)) (.cons (.cmp .eq (.sl (.var 1) .nil (.b1 .len (.var 2))) (.var 2)) (.cons (.bl true) (.cons (.bl true) .nil)))))) (.cons (.ife (.cmp .ne (.b1 .repr (.var 4)) (.b1 .repr (.var 5))) (.cons (.ret (.bl false)) .nil) .nil) (.cons (.for_ (.itR1 (.int 3)) (.nm 6) (.cons (.set (.nm 3) (.call 5 (.cons (.var 0) (.cons (.var 3) .nil)))) (.cons (.ife (.cmp .ne (.call 8 (.cons (.var 3) .nil)) (.call 9 (.cons (.var 3) .nil))) (.cons (.ret (.bl false)) .nil) .nil) .nil))) (.cons (.ret (.bl true)) .nil))))))
def n__law_right : List Str := ["state", "one", "other", "word", "found", "begins", "again", "at"]
def b__law_right : List Str := ["len", "range", "repr", "str"]
def i__law_right : List (Str × Int) := []
def s__law_right : List (Str × List Nat) := []
theorem c__law_right : chkSs ⟨n__law_right, ["_law_mixed", "_law_draw", "_law_digit", "_law_place", "is_within", "_law_bent", "place_text", "number_of", "read_place", "_law_read"], i__law_right, s__law_right, b__law_right⟩ (defScope (top 18)) e__law_right (defBody (top 18)) = true := by decide +kernel
theorem sc__law_right : C8.scC n__law_right ["state", "one", "other"] (defScope (top 18)) = true := by decide +kernel
-- law(script)  slots 0 script, 1 k, 2 cell, 3 some, 4 at, 5 state, 6 one, 7 other, 8 odd, 9 word
def e_law_f1 : S := .cons (.set (.nm 5) (.call 1 (.cons (.var 2) (.cons (.var 1) .nil)))) (.cons (.set (.nm 6) (.call 3 (.cons (.var 5) (.cons (.call 2 (.cons (.var 5) (.cons (.int 8) .nil))) .nil)))) (.cons (.set (.nm 7) (.ix (.lst (.cons (.var 6) (.cons (.sl (.var 6) .nil (.call 2 (.cons (.var 5) (.cons (.int 8) .nil)))) (.cons (.tup .nil) .nil)))) (.call 2 (.cons (.var 5) (.cons (.int 3) .nil))))) (.cons (.set (.nm 7) (.op .add (.var 7) (.call 3 (.cons (.var 5) (.cons (.call 2 (.cons (.var 5) (.cons (.int 3) .nil))) .nil))))) (.cons (.ife (.lnot (.call 10 (.cons (.var 5) (.cons (.var 6) (.cons (.sl (.var 7) .nil (.int 7)) .nil))))) (.cons (.ret (.bl false)) .nil) .nil) (.cons (.set (.nm 8) (.ix (.lst (.cons (.non) (.cons (.int 7) (.cons (.bl true) (.cons (.tup .nil) (.cons (.lst (.cons (.str [46]) .nil)) (.cons (.tup (.cons (.str [48]) .nil)) (.cons (.dic .nil) (.cons (.lst (.cons (.int 0) .nil)) .nil))))))))) (.call 2 (.cons (.var 5) (.cons (.int 8) .nil))))) (.cons (.ife (.cmp .isnot (.call 8 (.cons (.var 8) .nil)) .non) (.cons (.ret (.bl false)) .nil) .nil) .nil))))))
def e_law_f2 : S := .cons (.set (.nm 6) (.tup (.cons (.var 4) (.cons (.int 1) .nil)))) (.cons (.ife (.lor (.cons (.call 4 (.cons (.var 6) (.cons (.tup (.cons (.op .mul (.int 10) (.var 4)) (.cons (.int 1) .nil))) .nil))) (.cons (.call 4 (.cons (.var 6) (.cons (.tup (.cons (.var 4) (.cons (.op .add (.int 10) (.var 4)) .nil))) .nil))) (.cons (.lnot (.call 4 (.cons (.var 6) (.cons (.tup (.cons (.var 4) (.cons (.int 1) (.cons (.op .mul (.int 10) (.var 4)) .nil)))) .nil)))) .nil)))) (.cons (.ret (.bl false)) .nil) .nil) (.cons (.ife (.lor (.cons (.call 4 (.cons (.tup (.cons (.var 4) .nil)) (.cons (.tup (.cons (.op .add (.op .mul (.int 10) (.var 4)) (.var 4)) (.cons (.var 4) .nil))) .nil))) (.cons (.call 4 (.cons (.tup (.cons (.var 4) (.cons (.int 10) .nil))) (.cons (.var 6) .nil))) .nil))) (.cons (.ret (.bl false)) .nil) .nil) .nil))
def e_law : S := .cons (.for_ (.itEL (.op .add (.sl (.var 0) .nil (.int 20)) (.lst (.cons (.b1 .sum (.var 0)) .nil)))) (.tup (.cons (.nm 1) (.cons (.nm 2) .nil))) (e_law_f1)) (.cons (.set (.nm 3) (.lst (.cons (.str []) (.cons (.str [46, 46]) (.cons (.str [48, 46]) (.cons (.str [46, 48]) (.cons (.str [48, 48]) (.cons (.str [54, 48]) (.cons (.str [53, 57, 46, 53, 57, 46, 53, 57, 46, 53, 57, 46, 53, 57, 46, 53, 57, 46, 53, 57]) (.cons (.str [48, 46, 48, 46, 48, 46, 48, 46, 48, 46, 48, 46, 48, 46, 48]) (.cons (.str [49, 46, 48, 49]) .nil))))))))))) (.cons (.set (.nm 3) (.op .add (.var 3) (.lst (.cons (.op .mul (.str [49]) (.int 5000)) (.cons (.op .mul (.str [46]) (.int 5000)) (.cons (.str [46, 10]) (.cons (.str [48, 10]) (.cons (.str [10]) (.cons (.str [48, 46, 49, 10]) (.cons (.str [48, 10, 46, 49]) .nil)))))))))) (.cons (.for_ (.itR2 (.int 1) (.int 6)) (.nm 4) (e_law_f2)) (.cons (.ret (.cmp .eq (.comp (.itL (.var 3)) (.nm 9) [9] (.cons (.cmp .ne (.call 8 (.cons (.var 9) .nil)) (.call 9 (.cons (.var 9) .nil))) .nil) (.var 9)) (.lst .nil))) .nil))))
def n_law : List Str := ["script", "k", "cell", "some", "at", "state", "one", "other", "odd", "word"]
def b_law : List Str := ["enumerate", "range", "sum"]
def i_law : List (Str × Int) := []
def s_law : List (Str × List Nat) := []
theorem c_law : chkSs ⟨n_law, ["_law_mixed", "_law_draw", "_law_digit", "_law_place", "is_within", "_law_bent", "place_text", "number_of", "read_place", "_law_read", "_law_right"], i_law, s_law, b_law⟩ (defScope (top 19)) e_law (defBody (top 19)) = true := by decide +kernel
theorem sc_law : C8.scC n_law ["script"] (defScope (top 19)) = true := by decide +kernel
end K04
namespace K04
open PySem PySem.Spec PyProof.Rows L2 Lit
def spPlace : DSp := fun ds h _ Q => ∃ (p : Addr) (m n : Int), ds = [.ref p, .int m] ∧ 0 ≤ m ∧ m ≤ 20 ∧ n < 2 ^ 39 ∧ Lit.St n h p ∧ ∀ (is : List Int) (h' : PH), is.length = m.toNat → (∀ x ∈ is, 0 ≤ x ∧ x < 60) → Lit.St (n + 2 * m) h' p → ExtBut p h h' → Q (itup is) h'
theorem b_place (sps : List DSp) (e2 : sps[2]? = some spDigit) (ds h xq Q) (q : spPlace ds h xq Q) : body sps e__law_place 3 ds h xq Q := by
  obtain ⟨p, m, n, rfl, hm, hm2, hn, st, hQ⟩ := q
  simp [body, e__law_place, startD]
  refine ⟨by omega, by omega, ?_⟩
  refine compLoop_inv (fun ds acc h' => ∃ is : List Int, acc = is.map D.int ∧ (∀ x ∈ is, 0 ≤ x ∧ x < 60) ∧ is.length + ds.length = m.toNat ∧ Lit.St (n + 2 * is.length) h' p ∧ ExtBut p h h') (fun _ _ _ _ => trivial) ?_ ?_ _ _ _ ⟨[], rfl, by simp, by simp [nats_len], by simpa using st, .refl⟩
  · rintro d ds acc h1 ⟨is, rfl, hb, hl, st1, x1⟩
    refine ⟨_, asg_nm, fun N hN => ?_⟩
    simp [wipeR]
    simp only [List.length_cons] at hl
    refine spAt_ok e2 ⟨p, 60, n + 2 * is.length, rfl, by decide, by decide, by omega, st1, fun r h2 hr hr' st2 x2 => ⟨by decide, fun q3 h3 n3 e3 x3 => ?_⟩⟩
    refine spAt_ok e2 ⟨p, 4, n + 2 * is.length + 1, rfl, by decide, by decide, by omega, st2.ext x3, fun r4 h4 hr4 hr4' st4 x4 => ?_⟩
    have e4 := x4 q3 _ (St.ne st2 n3) e3
    obtain ⟨v, a1, a2⟩ := atI_in (l := ([.int 0, .int 1, .int 59, .int r] : List D)) hr4 hr4'
    simp only [ixD, e4, a1]
    have vv : ∃ x : Int, v = .int x ∧ 0 ≤ x ∧ x < 60 := by
      simp only [List.mem_cons, List.not_mem_nil, or_false] at a2
      rcases a2 with rfl | rfl | rfl | rfl
      · exact ⟨0, rfl, by decide, by decide⟩
      · exact ⟨1, rfl, by decide, by decide⟩
      · exact ⟨59, rfl, by decide, by decide⟩
      · exact ⟨r, rfl, hr, hr'⟩
    obtain ⟨x, rfl, hx, hx'⟩ := vv
    refine ⟨by rw [sz]; omega, hN _ _ ⟨is ++ [x], by simp, ?_, by simp; omega, ?_, ?_⟩⟩
    · intro y hy
      rcases List.mem_append.mp hy with z | z
      · exact hb y z
      · simp at z
        subst z
        exact ⟨hx, hx'⟩
    · exact st4.up (by simp; omega)
    · exact (x1.trans (x2.trans x3.but)).trans x4
  · rintro acc h1 ⟨is, rfl, hb, hl, st1, x1⟩ q2 h2 n2 e2' x2
    have tq : b1D .tuple (.ref q2) h2 Q = Q (itup is) h2 := by simp only [b1D, rdQ, rdL_ref e2']
    try dsimp only
    rw [tq]
    simp only [List.length_nil, Nat.add_zero] at hl
    exact hQ is h2 hl hb ((st1.ext x2).up (by omega)) (x1.trans x2.but)
/-! ### _law_bent -/
def every : List Nat := [33, 34, 35, 36, 38, 39, 40, 41, 42, 43, 44, 45, 46, 47, 48, 49, 50, 51, 52, 53, 54, 55, 56, 57, 58, 59, 60, 61, 62, 63, 64, 65, 66, 67, 68, 69, 70, 71, 72, 73, 74, 75, 76, 77, 78, 79, 80, 81, 82, 83, 84, 85, 86, 87, 88, 89, 90, 91, 92, 93, 94, 95, 96, 97, 98, 99, 100, 101, 102, 103, 104, 105, 106, 107, 108, 109, 110, 111, 112, 113, 114, 115, 116, 117, 118, 119, 120, 121, 122, 123, 124, 125, 126, 32, 10]
theorem every_ok : ∀ c ∈ every, c < 128 := by decide +kernel
def spBent : DSp := fun ds h _ Q => ∃ (p : Addr) (s : List Nat) (k : Nat) (n : Int), ds = [.ref p, .str s] ∧ Wd k s ∧ k < 1000 ∧ n < 2 ^ 39 ∧ Lit.St n h p ∧ ∀ (s' : List Nat) (h' : PH), Wd (k + k + 1) s' → Lit.St (n + 4) h' p → ExtBut p h h' → Q (.str s') h'
theorem wd1 {c : Nat} (h : c < 128) : Wd 1 [c] := ⟨by simpa using h, by simp⟩
theorem b_bent (sps : List DSp) (e2 : sps[2]? = some spDigit) (ds h xq Q) (q : spBent ds h xq Q) : body sps e__law_bent 5 ds h xq Q := by
  obtain ⟨p, s, k, n, rfl, w, hk, hn, st, hQ⟩ := q
  have wl := w.2
  have hs : s.length ≤ sizeLine := by rw [sz]; omega
  simp [body, e__law_bent, startD, Lit.len_str, hs]
  refine spAt_ok e2 ⟨p, _, n, rfl, by omega, by omega, by omega, st, fun r1 h1 ha1 hb1 st1 x1 => ⟨by decide, ?_⟩⟩
  refine spAt_ok e2 ⟨p, _, n + 1, rfl, by decide, by decide, by omega, st1, fun r2 h2 ha2 hb2 st2 x2 => ?_⟩
  obtain ⟨c, a1, a2⟩ := atI_in (l := every) ha2 hb2
  have c8 := every_ok c a2
  try dsimp only
  refine ⟨by decide, ?_⟩
  have a1x := a1
  unfold every at a1x
  rw [a1x]
  try dsimp only
  refine ⟨by decide, fun q3 h3 n3 e3 x3 => ?_⟩
  refine spAt_ok e2 ⟨p, 6, n + 2, rfl, by decide, by decide, by omega, (st2.ext x3).up (by omega), fun r4 h4 ha4 hb4 st4 x4 => ?_⟩
  have e4 := x4 q3 _ (St.ne st2 n3) e3
  obtain ⟨v, b1, b2⟩ := atI_in (l := ([.str [46], .str [48], .str [53], .str [57], .str [], .str [c]] : List D)) ha4 hb4
  simp only [ixD, e4, b1]
  have vv : ∃ t, v = .str t ∧ Wd 1 t := by
    simp only [List.mem_cons, List.not_mem_nil, or_false] at b2
    rcases b2 with rfl | rfl | rfl | rfl | rfl | rfl
    · exact ⟨_, rfl, wd1 (by decide)⟩
    · exact ⟨_, rfl, wd1 (by decide)⟩
    · exact ⟨_, rfl, wd1 (by decide)⟩
    · exact ⟨_, rfl, wd1 (by decide)⟩
    · exact ⟨_, rfl, ⟨by simp, by simp⟩⟩
    · exact ⟨_, rfl, wd1 c8⟩
  obtain ⟨t, rfl, wt⟩ := vv
  have wtl := wt.2
  simp only [Lit.sl_str]
  have wc : ∀ lo hi, Wd k (cutL s lo hi) := fun lo hi => w.cut
  have l1 := (wc none (some r1)).2
  refine ⟨hs, ?_⟩
  try dsimp only
  rw [bin_addS]
  refine ⟨by rw [sz]; omega, ?_⟩
  try dsimp only
  refine spAt_ok e2 ⟨p, 2, n + 3, rfl, by decide, by decide, by omega, st4.up (by omega), fun r5 h5 ha5 hb5 st5 x5 => ?_⟩
  try dsimp only
  rw [bin_addI]
  try dsimp only
  have l2 := (wc (some (r1 + r5)) none).2
  refine ⟨hs, ?_⟩
  try dsimp only
  rw [bin_addS]
  refine ⟨by rw [sz, List.length_append]; omega, ?_⟩
  refine hQ _ _ ((((wc _ _).app wt).app (wc _ _)).up (by omega)) (st5.up (by omega)) ((x1.trans (x2.trans x3.but)).trans (x4.trans x5))
end K04
namespace K04
open PySem PySem.Spec PyProof.Rows L2 Lit
/-- [sign for sign in s if sign not in T] -/
def notIn (j i : Nat) (t : List Nat) : E := .comp (.itL (.var j)) (.nm i) [i] (.cons (.cmp .notin (.var i) (.str t)) .nil) (.var i)
def sigs (s : List Nat) : List (List Nat) := s.map fun c => [c]
theorem fm_notIn (t : List Nat) : ∀ s : List Nat, s.filterMap (fun c => if c ∈ t then none else some (D.str [c])) = (sigs (s.filter fun c => !decide (c ∈ t))).map D.str
  | [] => rfl
  | c :: s => by
    rw [List.filterMap_cons, List.filter_cons]
    by_cases z : c ∈ t
    · simp only [z, if_true, decide_true, Bool.not_true, Bool.false_eq_true, if_false]
      exact fm_notIn t s
    · simp only [z, if_false, decide_false, Bool.not_false, if_true]
      rw [fm_notIn t s]
      rfl
theorem not_in (sps : List DSp) {ρ : Rho} {h : PH} {xq : XQ} {Q : D → PH → Prop} {s t : List Nat} {i j : Nat} (hi : i < ρ.length) (h0 : ρ[j]? = some (some (.str s))) (hl : s.length ≤ sizeLine)
    (q : ∀ p h', h p = none → h' p = some (.lst ((sigs (s.filter fun c => !decide (c ∈ t))).map D.str)) → Ext h h' → Q (.ref p) h') : rdE sps (notIn j i t) ρ h xq Q := by
  simp only [notIn, rdE_comp, rdI_itL, rdE_var, h0]
  refine compLoop_map (sgn fun c => if c ∈ t then none else some (D.str [c])) (fun h' => h' = h) (fun _ _ => trivial) _ _ _ ?_ (by simpa using hl) rfl ?_
  · intro d hd h' eh
    subst eh
    obtain ⟨c, _, rfl⟩ := List.mem_map.mp hd
    refine ⟨_, asg_nm, fun P hP => ?_⟩
    have e : (List.set (wipeR ρ [i]) i (some (D.str [c])))[i]? = some (some (.str [c])) := by
      simp [wipeR, hi]
    simp only [rdC_one, rdT_cmp, rdE_var, rdE_str, e, cmp_notinS]
    have := hP _ rfl
    by_cases z : c ∈ t
    · simp only [z, decide_true, Bool.not_true]
      simpa [sgn, z] using this
    · simp only [z, decide_false, Bool.not_false]
      simpa [sgn, z] using this
  · intro h' eh p h2 n e x
    subst eh
    have fm := fm_sig (fun c => if c ∈ t then none else some (D.str [c])) s
    rw [fm_notIn] at fm
    rw [List.nil_append, fm] at e
    exact q p h2 n e x
theorem okC_sigs {s : List Nat} {f : Nat → Bool} (h : okC s = true) : (sigs (s.filter f)).all okC = true := by
  rw [List.all_eq_true]
  intro x hx
  obtain ⟨c, hc, rfl⟩ := List.mem_map.mp hx
  have := List.all_eq_true.mp h c (List.mem_filter.mp hc).1
  simp only [okC, List.all_cons, List.all_nil, Bool.and_true]
  exact this
theorem sigs_nil {s : List Nat} {t : List Nat} : sigs (s.filter fun c => !decide (c ∈ t)) = [] ↔ (s.all fun c => decide (c ∈ t)) = true := by
  simp [sigs, List.filter_eq_nil_iff]
theorem idx_fig : ∀ c ∈ figs, Txt.index0 (mkS figs) (mkS [c]) = some (c - 48) := by decide +kernel
/-- part == '' or others != [] or len(part) > 2 or (len(part) == 2 and part[0] == '0') -/
def condN (j i : Nat) : E := .lor (.cons (.cmp .eq (.var j) (.str [])) (.cons (.cmp .ne (.var i) (.lst .nil)) (.cons (.cmp .gt (.b1 .len (.var j)) (.int 2)) (.cons (.land (.cons (.cmp .eq (.b1 .len (.var j)) (.int 2)) (.cons (.cmp .eq (.ix (.var j) (.int 0)) (.str [48])) .nil))) .nil))))
theorem cond_n (sps : List DSp) {ρ : Rho} {h : PH} {xq : XQ} {R : Bool → PH → Prop} {s : List Nat} {i j : Nat} {p : Addr} (hj : ρ[j]? = some (some (.str s))) (hi : ρ[i]? = some (some (.ref p))) (ok : okC s = true) (hs : s.length ≤ sizeLine)
    (e1 : h p = some (.lst ((sigs (s.filter fun c => !decide (c ∈ figs))).map D.str))) (q : ∀ h', Ext h h' → R (!okNum s) h') : rdT_ sps (condN j i) ρ h xq R := by
  simp [condN, hj, hi]
  by_cases c0 : s = []
  · subst c0
    simpa [okNum] using q h .refl
  simp only [c0, decide_false]
  intro q' h2 n2 e2 x2
  rw [ne_strs (bs := []) (x2 p _ e1) e2 (okC_sigs ok) rfl]
  have c0' : 1 ≤ s.length := by
    cases s with
    | nil => exact absurd rfl c0
    | cons a r => simp
  have hq := q h2 x2
  cases ea : s.all fun c => decide (c ∈ figs) with
  | false =>
    have ne : ¬ sigs (s.filter fun c => !decide (c ∈ figs)) = [] := fun z => by rw [sigs_nil.mp z] at ea; cases ea
    simp only [ne, decide_false, Bool.not_false]
    simpa [okNum, ea] using hq
  | true =>
    simp only [sigs_nil.mpr ea, decide_true, Bool.not_true, Lit.len_str, cmp_gt]
    refine ⟨hs, ?_⟩
    by_cases c3 : (2 : Int) < (s.length : Int)
    · simp only [c3, decide_true]
      have l : ¬ s.length ≤ 2 := by omega
      simpa [okNum, l] using hq
    simp only [c3, decide_false, cmp_eqI]
    refine ⟨hs, ?_⟩
    obtain ⟨a, r, rfl⟩ := List.exists_cons_of_ne_nil c0
    have at0 : atI (a :: r) 0 = some a := by simp [atI, ixN]
    have l : (a :: r).length ≤ 2 := by omega
    by_cases c4 : ((a :: r).length : Int) = 2
    · simp only [c4, decide_true, ixD, at0]
      refine ⟨hs, ?_⟩
      simp only [cmp_eqS]
      by_cases c5 : a = 48
      · subst c5
        simp only [decide_true]
        have nr : r ≠ [] := fun z => by subst z; simp at c4
        simpa [okNum, nr] using hq
      · have c5' : ¬ [a] = [48] := fun z => c5 (by simpa using z)
        simp only [c5', decide_false]
        have : okNum (a :: r) = true := by
          simp only [okNum, ea, l, c0', decide_true, Bool.and_self, Bool.true_and]
          simp [c5]
        rwa [this] at hq
    · simp only [c4, decide_false]
      have r0 : r = [] := by
        cases r with
        | nil => rfl
        | cons b r => simp only [List.length_cons] at c4 l; omega
      subst r0
      have : okNum [a] = true := by
        simp only [okNum, ea, l, c0', decide_true, Bool.and_self, Bool.true_and]
        simp
      rwa [this] at hq
def bodyP : S := .cons (.setC 3 (notIn 2 5 figs)) (.cons (.ife (condN 2 3) (.cons (.ret .non) .nil) .nil) (.cons (.set (.nm 4) (.op .mul (.mth .sindex (.str figs) (.cons (.ix (.var 2) (.int 0)) .nil)) (.op .sub (.b1 .len (.var 2)) (.int 1)))) (.cons (.expr (.mth .append (.var 1) (.cons (.op .add (.op .mul (.int 10) (.var 4)) (.mth .sindex (.str figs) (.cons (.ix (.var 2) (.neg (.int 1))) .nil))) .nil))) .nil)))
theorem eL_read : e__law_read = .cons (.ife (.cmp .eq (.var 0) (.str [46])) (.cons (.ret (.tup .nil)) .nil) .nil) (.cons (.set (.nm 1) (.lst .nil)) (.cons (.for_ (.itL (.mth .split (.var 0) (.cons (.str [46]) .nil))) (.nm 2) bodyP)
  (.cons (.ret (.ife (.land (.cons (.cmp .lt (.b1 .len (.var 1)) (.int 8)) (.cons (.cmp .lt (.b1 .maxL (.var 1)) (.int 60)) .nil))) (.b1 .tuple (.var 1)) .non)) .nil))) := rfl
def spReadL : DSp := fun ds h _ Q => ∃ s : List Nat, ds = [.str s] ∧ okC s = true ∧ s.length + 2 ≤ sizeLine ∧ ∀ h', Ext h h' → Q (pD (rp s)) h'
theorem rp_bad {s p : List Nat} (e0 : ¬ s = [46]) (hp : p ∈ splS [46] s) (b : okNum p = false) : rp s = none := by
  have : (splS [46] s).all good = false := by
    rw [List.all_eq_false]
    exact ⟨p, hp, by simp [good, b]⟩
  simp [rp, e0, this]
theorem num_ends {a : Nat} {r : List Nat} (l : (a :: r).length ≤ 2) (ha : a ∈ figs) (hr : ∀ c ∈ r, c ∈ figs) : ∃ b, atI (a :: r) (-1) = some b ∧ b ∈ figs ∧ (10 * (((a - 48 : Nat) : Int) * (r.length : Int)) + ((b - 48 : Nat) : Int)) = (numV (a :: r) : Nat) := by
  match r, l, hr with
  | [], _, _ => exact ⟨a, by simp [atI, ixN], ha, by simp [numV]⟩
  | [b], _, hr =>
    refine ⟨b, by simp [atI, ixN], hr b (by simp), ?_⟩
    simp [numV]
    omega
theorem spl_pos {b : List Nat} : ∀ {l acc : List Nat} {k : Nat}, 1 ≤ (TL.spl b k acc l).length
  | [], acc, k => by rw [TL.spl_nil]; simp
  | c :: r, acc, 0 => by
    cases e : TL.pre b (c :: r) with
    | true => rw [TL.spl_hit e]; simp
    | false => rw [TL.spl_miss e]; exact spl_pos
  | c :: r, acc, k + 1 => spl_pos (b := b) (l := r) (acc := acc) (k := k)
theorem b_lread (sps : List DSp) (ds h xq Q) (q : spReadL ds h xq Q) : body sps e__law_read 6 ds h xq Q := by
  obtain ⟨s, rfl, ok, hl, hQ⟩ := q
  have hs : s.length ≤ sizeLine := by omega
  rw [eL_read]
  simp [body, startD]
  by_cases e0 : s = [46]
  · simp only [e0, decide_true]
    have := hQ h .refl
    simp only [rp, e0, if_true, pD] at this
    exact this
  simp only [e0, decide_false]
  intro pF h1 n1 e1 x1
  refine ⟨rfl, ?_⟩
  rw [split_mth (s := s) (b := [46]) (by simp) (by decide)]
  refine ⟨by simp, hl, fun q2 h2 n2 e2 x2 => ?_⟩
  try dsimp only
  rw [rdL_ref e2]
  try dsimp only
  have ne12 : q2 ≠ pF := (ne_of n2 e1).symm
  have pk := splS_ok (b := [46]) ok
  have sl : (splS [46] s).length ≤ s.length + 1 := spl_many (b := [46]) (l := s) (acc := []) (k := 0)
  refine forLoop_inv (fun ds ρ h' => ∃ (dn rest : List (List Nat)) (a2 a3 a4 a5 : Option D), splS [46] s = dn ++ rest ∧ ds = rest.map D.str ∧ (∀ p ∈ dn, okNum p = true) ∧ ρ = [some (.str s), some (.ref pF), a2, a3, a4, a5] ∧ h' pF = some (.lst ((dn.map fun p => (numV p : Int)).map D.int)) ∧ h' q2 = some (.lst ((splS [46] s).map D.str)) ∧ Ext h h')
    (fun ds ρ h' p => by obtain ⟨_, _, _, _, _, _, _, _, _, _, _, e, _⟩ := p; exact rdL_ref e) ?_ ?_ _ _ _ ⟨[], splS [46] s, none, none, none, none, rfl, rfl, by simp, rfl, x2 _ _ e1, e2, x1.trans x2⟩
  · rintro d ds ρ h' ⟨dn, rest, a2, a3, a4, a5, ep, ed, hd, rfl, f1, f2, x'⟩
    cases rest with
    | nil => simp at ed
    | cons part rest =>
      simp only [List.map_cons, List.cons.injEq] at ed
      obtain ⟨rfl, rfl⟩ := ed
      refine ⟨_, asg_nm, fun N hN => ?_⟩
      have pm : part ∈ splS [46] s := by rw [ep]; simp
      have pok : okC part = true := List.all_eq_true.mp pk part pm
      have plen : part.length ≤ s.length := by
        have := spl_sub (b := [46]) (l := s) (acc := []) (k := 0) part pm
        simpa using this
      have ps : part.length ≤ sizeLine := by omega
      simp [bodyP]
      refine not_in sps (ρ := [some (.str s), some (.ref pF), some (.str part), a3, a4, a5]) (by simp) rfl ps fun p3 h3 n3 e3 x3 => ?_
      refine cond_n sps (ρ := [some (.str s), some (.ref pF), some (.str part), some (.ref p3), a4, a5]) rfl rfl pok ps e3 fun h4 x4 => ?_
      have x04 := (x'.trans x3).trans x4
      cases eo : okNum part with
      | false =>
        have := hQ h4 x04
        rw [rp_bad e0 pm eo] at this
        exact this
      | true =>
        have eo' := eo
        simp only [okNum, Bool.and_eq_true_iff, decide_eq_true_eq] at eo'
        obtain ⟨⟨⟨o1, o2⟩, o3⟩, _⟩ := eo'
        cases part with
        | nil => simp at o1
        | cons a r =>
          have fa : ∀ c ∈ a :: r, c ∈ figs := fun c hc => of_decide_eq_true (List.all_eq_true.mp o3 c hc)
          obtain ⟨b, ab, fb, nv⟩ := num_ends o2 (fa a (by simp)) (fun c hc => fa c (by simp [hc]))
          have at0 : atI (a :: r) 0 = some a := by simp [atI, ixN]
          simp only [Bool.not_true]
          have f1' : h4 pF = _ := x4 _ _ (x3 _ _ f1)
          have m1 := mthD
          simp [tyB, isStr, ixD, at0, ab, ps, mthD, idx_fig a (fa a (by simp)), idx_fig b fb, Lit.len_str, rdM, f1']
          have ha57 := figs_of (fa a (by simp))
          have dl : dn.length ≤ (splS [46] s).length := by rw [ep, List.length_append]; omega
          refine ⟨ps, cmul_of (by omega) (by omega), cmul_of (by decide) (by decide), ps, by omega, fun h5 e5 x5 => ?_⟩
          refine hN _ _ ⟨dn ++ [a :: r], rest, _, _, _, _, by rw [ep]; simp, rfl, ?_, rfl, ?_, x5 _ _ ne12 (x4 _ _ (x3 _ _ f2)), ext_put x04 x5 n1⟩
          · intro p hp
            rcases List.mem_append.mp hp with z | z
            · exact hd p z
            · simp at z
              rw [z]
              exact eo
          · rw [e5, nv]
            simp
  · rintro ρ h' ⟨dn, rest, a2, a3, a4, a5, ep, ed, hd, rfl, f1, f2, x'⟩
    cases rest with
    | cons p r => simp at ed
    | nil =>
      rw [List.append_nil] at ep
      have hq := hQ h' x'
      simp
      rw [len_lst f1]
      simp only [List.length_map, cmp_lt]
      have ne : splS [46] s ≠ [] := fun z => by
        have := spl_pos (b := [46]) (l := s) (acc := []) (k := 0)
        rw [show TL.spl [46] 0 [] s = [] from z] at this
        simp at this
      rw [← ep] at hd f1 ⊢
      generalize hps : splS [46] s = ps at hd f1 ne ⊢
      by_cases l8 : ps.length < 8
      · have l8' : (ps.length : Int) < 8 := by omega
        simp only [l8', decide_true]
        obtain ⟨p0, pr, rfl⟩ := List.exists_cons_of_ne_nil ne
        have mx : ∀ Q' : D → PH → Prop, b1D .maxL (.ref pF) h' Q' = Q' (.int (maxI (numV p0 : Nat) (pr.map fun p => (numV p : Int)))) h' := fun Q' => by
          simp only [b1D, rdL_ref f1]
          rw [List.map_cons, List.map_cons]
          simp only [intsOf, ints_int, Option.map_some]
        rw [mx]
        simp only [cmp_lt]
        have tq : ∀ Q' : D → PH → Prop, b1D .tuple (.ref pF) h' Q' = Q' (itup ((p0 :: pr).map fun p => (numV p : Int))) h' := fun Q' => by simp only [b1D, rdQ, rdL_ref f1]
        rw [tq]
        have key : decide (maxI (numV p0 : Nat) (pr.map fun p => (numV p : Int)) < 60) = (p0 :: pr).all good := by
          cases ea : (p0 :: pr).all good with
          | true =>
            refine decide_eq_true ?_
            rcases List.mem_cons.mp (maxI_mem (pr.map fun p => (numV p : Int)) (numV p0 : Nat)) with z | z
            · have g := List.all_eq_true.mp ea p0 (by simp)
              simp only [good, Bool.and_eq_true_iff, decide_eq_true_eq] at g
              omega
            · obtain ⟨p, hp, e⟩ := List.mem_map.mp z
              have g := List.all_eq_true.mp ea p (by simp [hp])
              simp only [good, Bool.and_eq_true_iff, decide_eq_true_eq] at g
              omega
          | false =>
            refine decide_eq_false fun z => ?_
            obtain ⟨p, hp, g⟩ := List.all_eq_false.mp ea
            have o := hd p hp
            simp only [good, o, Bool.true_and, decide_eq_true_eq] at g
            have ge := maxI_ge (pr.map fun p => (numV p : Int)) (numV p0 : Nat) (numV p : Nat) (by
              rcases List.mem_cons.mp hp with rfl | hp
              · simp
              · exact List.mem_cons_of_mem _ (List.mem_map.mpr ⟨p, hp, rfl⟩))
            omega
        rw [key]
        cases ea : (p0 :: pr).all good with
        | true =>
          have l9 : (p0 :: pr).length < 8 := l8
          have rq : rp s = some ((p0 :: pr).map fun p => (numV p : Int)) := by
            simp only [rp, e0, if_false, hps, l9, decide_true, ea, Bool.and_self, if_true]
          rw [rq] at hq
          exact hq
        | false => simpa [rp, e0, hps, l8, ea, pD] using hq
      · have l8' : ¬ (ps.length : Int) < 8 := by omega
        simp only [l8', decide_false]
        simpa [rp, e0, hps, l8, pD] using hq
end K04
namespace K04
open PySem PySem.Spec PyProof.Rows L2 Lit
theorem num60 : ∀ n < 60, okNum (showN (n : Nat)) = true ∧ numV (showN (n : Nat)) = n := by decide +kernel
theorem num_60 {x : Int} (h0 : 0 ≤ x) (h1 : x < 60) : good (showN x) = true ∧ ((numV (showN x) : Nat) : Int) = x := by
  obtain ⟨n, rfl⟩ := Int.eq_ofNat_of_zero_le h0
  obtain ⟨a, b⟩ := num60 n (by omega)
  refine ⟨?_, by rw [b]⟩
  simp only [good, a, b, Bool.true_and, decide_eq_true_eq]
  first | done | omega
theorem rp_ptext {is : List Int} (hl : is.length < 8) (hb : ∀ x ∈ is, 0 ≤ x ∧ x < 60) : rp (ptext is) = some is := by
  by_cases e : is = []
  · subst e
    rfl
  · have sp : splS [46] (TL.joinL [46] (is.map showN)) = is.map showN := SX.spl_join (c := 46) (sep := []) (by simpa using e) (fun p hp hc => by
      obtain ⟨x, hx, rfl⟩ := List.mem_map.mp hp
      have := (show_sm (hb x hx).1 (by have := (hb x hx).2; omega)).1 46 hc
      omega)
    have ne : ¬ TL.joinL [46] (is.map showN) = [46] := fun z => by
      rw [z] at sp
      obtain ⟨a, r, rfl⟩ := List.exists_cons_of_ne_nil e
      have l := (show_sm (hb a (by simp)).1 (by have := (hb a (by simp)).2; omega)).2.1
      have s2 : splS [46] [46] = [[], []] := by decide
      rw [s2, List.map_cons] at sp
      have : showN a = [] := (List.cons.inj sp).1.symm
      rw [this] at l
      simp at l
    have ag : (is.map showN).all good = true := by
      rw [List.all_eq_true]
      intro p hp
      obtain ⟨x, hx, rfl⟩ := List.mem_map.mp hp
      exact (num_60 (hb x hx).1 (hb x hx).2).1
    have vals : (is.map showN).map (fun p => ((numV p : Nat) : Int)) = is := by
      rw [List.map_map]
      conv => rhs; rw [← List.map_id is]
      exact List.map_congr_left fun x hx => (num_60 (hb x hx).1 (hb x hx).2).2
    simp only [ptext, e, if_false, rp, ne, sp, ag, vals, List.length_map, hl, decide_true, Bool.and_self, if_true]
theorem ptext_wd {is : List Int} (hl : is.length < 8) (hb : ∀ x ∈ is, 0 ≤ x ∧ x < 60) : Wd 30 (ptext is) := by
  have dig : ∀ x ∈ is, Wd 3 (showN x) := fun x hx => by
    have := show_sm (hb x hx).1 (by have := (hb x hx).2; omega)
    exact ⟨fun c hc => by have := this.1 c hc; omega, this.2.2.1⟩
  have key : ∀ l : List Int, (∀ x ∈ l, Wd 3 (showN x)) → Wd (4 * l.length) (TL.joinL [46] (l.map showN)) := fun l => by
    induction l with
    | nil => intro _; exact ⟨by simp [TL.joinL], by simp [TL.joinL]⟩
    | cons a r ih =>
      intro h
      cases r with
      | nil => exact (h a (by simp)).up (by simp)
      | cons b r =>
        have w := ih fun x hx => h x (by simp [hx])
        show Wd _ (showN a ++ ([46] ++ TL.joinL [46] ((b :: r).map showN)))
        exact ((h a (by simp)).app ((wd1 (by decide)).app w)).up (by simp only [List.length_cons]; omega)
  unfold ptext
  split
  · exact (wd1 (by decide)).up (by decide)
  · exact (key is dig).up (by omega)
theorem shownAll_ints : ∀ is : List Int, PyData.shownAll (is.map PyData.int) = is.map fun i => (toString i : Str)
  | [] => by simp only [List.map_nil, PyData.shownAll]
  | i :: is => by simp only [List.map_cons, PyData.shownAll, PyData.shown, shownAll_ints is]
theorem showableAll_ints : ∀ is : List Int, (∀ x ∈ is, x.natAbs.log2 < 1920) → PyData.showableAll (is.map PyData.int) = true
  | [], _ => by simp only [List.map_nil, PyData.showableAll]
  | i :: is, h => by
    have := h i (by simp)
    simp only [List.map_cons, PyData.showableAll, PyData.showable, this, decide_true, Bool.true_and]
    exact showableAll_ints is fun x hx => h x (by simp [hx])
theorem hasDictAll_ints : ∀ is : List Int, PyData.hasDictAll (is.map PyData.int) = false
  | [] => by simp only [List.map_nil, PyData.hasDictAll]
  | i :: is => by simp only [List.map_cons, PyData.hasDictAll, PyData.hasDict, Bool.false_or]; exact hasDictAll_ints is
theorem repr_itup {is : List Int} {h : PH} {Q : D → PH → Prop} (hl : is.length < 8) (hb : ∀ x ∈ is, 0 ≤ x ∧ x < 60) : b1D .repr (itup is) h Q = Q (.str (toPD (itup is)).shown.cps.toList) h := by
  have sm : ∀ x ∈ is, (showN x).length ≤ 3 ∧ x.natAbs.log2 < 1920 := fun x hx => by
    have := show_sm (hb x hx).1 (by have := (hb x hx).2; omega)
    exact ⟨this.2.2.1, this.2.2.2⟩
  have a1 : (toPD (itup is)).showable = true := by
    simp only [toPD, toPDs_ints, PyData.showable]
    exact showableAll_ints is fun x hx => (sm x hx).2
  have a2 : (toPD (itup is)).depth ≤ 60 := by
    simp only [toPD, toPDs_ints, PyData.depth, depth_ints]
    decide
  have a3 : (toPD (itup is)).hasDict = false := by
    simp only [toPD, toPDs_ints, PyData.hasDict]
    exact hasDictAll_ints is
  have a4 : (toPD (itup is)).shown.length ≤ sizeLine := by
    simp only [toPD, toPDs_ints, PyData.shown, shownAll_ints]
    have e : ∀ x : Int, ((toString x : Str)).length = (showN x).length := fun x => by simp [showN, Str.length]
    have jl := StrLaws.join_length_le (", " : Str) (is.map fun i => (toString i : Str))
    have s3 : ((is.map fun i => (toString i : Str)).map (·.length)).sum ≤ 3 * is.length := by
      have : ∀ l : List Int, (∀ x ∈ l, (showN x).length ≤ 3) → ((l.map fun i => (toString i : Str)).map (·.length)).sum ≤ 3 * l.length := fun l => by
        induction l with
        | nil => intro _; simp
        | cons a r ih =>
          intro hh
          have h1 := hh a (by simp)
          have h2 := ih fun x hx => hh x (by simp [hx])
          rw [← e a] at h1
          simp only [List.map_cons, List.sum_cons, List.length_cons]
          omega
      exact this is fun x hx => (sm x hx).1
    have l2 : ((", " : String) : Str).length = 2 := rfl
    rw [l2, List.length_map] at jl
    have tl : (tupleText (is.map fun i => (toString i : Str))).length ≤ 1 + (Str.join ", " (is.map fun i => (toString i : Str))).length + 2 := by
      unfold tupleText
      rw [strLen_append, strLen_append]
      have o1 : (("(" : String) : Str).length = 1 := rfl
      rw [o1]
      split
      · have : ((",)" : String) : Str).length = 2 := rfl
        rw [this]
        exact Nat.le_refl _
      · have : ((")" : String) : Str).length = 1 := rfl
        rw [this]
        omega
    have : sizeLine = 16777216 := sz
    omega
  have e : deref 12 h (itup is) = some (itup is) := deref_tupF (flat_ints is)
  simp only [b1D, e, a1, a2, a3, a4, true_and]
def shownT (is : List Int) : List Nat := (toPD (itup is)).shown.cps.toList
def wordE : E := .ife (.cmp .eq (.var 1) (.tup .nil)) (.str [46]) (.mth .join (.str [46]) (.cons (.comp (.itL (.var 1)) (.nm 7) [7] .nil (.b1 .str (.var 7))) .nil))
def bodyB : S := .cons (.set (.nm 3) (.call 5 (.cons (.var 0) (.cons (.var 3) .nil)))) (.cons (.ife (.cmp .ne (.call 8 (.cons (.var 3) .nil)) (.call 9 (.cons (.var 3) .nil))) (.cons (.ret (.bl false)) .nil) .nil) .nil)
theorem eL_right : e__law_right = .cons (.set (.nm 3) wordE) (.cons (.ife (.lor (.cons (.cmp .ne (.call 6 (.cons (.var 1) .nil)) (.var 3)) (.cons (.cmp .ne (.call 8 (.cons (.var 3) .nil)) (.var 1)) (.cons (.cmp .ne (.b1 .repr (.call 8 (.cons (.var 3) .nil))) (.b1 .repr (.var 1))) .nil)))) (.cons (.ret (.bl false)) .nil) .nil) (.cons (.set (.nm 4) (.lst (.cons (.call 4 (.cons (.var 1) (.cons (.var 2) .nil))) (.cons (.call 4 (.cons (.var 2) (.cons (.var 1) .nil))) (.cons (.call 4 (.cons (.var 1) (.cons (.var 1) .nil))) (.cons (.call 4 (.cons (.tup .nil) (.cons (.var 2) .nil))) .nil))))))
  (.cons (.set (.nm 5) (.lst (.cons (.cmp .eq (.sl (.var 2) .nil (.b1 .len (.var 1))) (.var 1)) (.cons (.cmp .eq (.sl (.var 1) .nil (.b1 .len (.var 2))) (.var 2)) (.cons (.bl true) (.cons (.bl true) .nil)))))) (.cons (.ife (.cmp .ne (.b1 .repr (.var 4)) (.b1 .repr (.var 5))) (.cons (.ret (.bl false)) .nil) .nil) (.cons (.for_ (.itR1 (.int 3)) (.nm 6) bodyB) (.cons (.ret (.bl true)) .nil)))))) := rfl
theorem word_e {sps : List DSp} {a3 a4 a5 a6 a7 a0 a2 : Option D} {is : List Int} {h : PH} {xq : XQ} {Q : D → PH → Prop} (hs : smallI is) (q : ∀ h', Ext h h' → Q (.str (ptext is)) h') : rdE sps wordE [a0, some (itup is), a2, a3, a4, a5, a6, a7] h xq Q := by
  obtain ⟨hl, hb⟩ := hs
  simp [wordE]
  rw [show cmpD .eq (.tup (is.map D.int)) (.tup []) h = cmpD .eq (itup is) (itup []) h from rfl, eq_itup]
  by_cases e : is = []
  · simp only [e, decide_true]
    have := q h .refl
    simpa [ptext, e] using this
  · simp only [e, decide_false]
    refine ⟨rfl, ?_⟩
    have sa := str_all sps (j := 1) (i := 7) (ρ := [a0, some (itup is), a2, a3, a4, a5, a6, a7]) (h := h) (xq := xq) (is := is) (Q := fun x h2 => mthD .join (.str [46]) [x] h2 Q) (by simp) rfl (by rw [sz]; omega) (fun x hx => (show_sm (hb x hx).1 (hb x hx).2).2.2.2) fun p h1 n1 e1 x1 => by
      rw [join_mth e1]
      refine ⟨?_, ?_⟩
      · have := sum_show hb
        simp only [List.length_map, List.length_cons, List.length_nil] at this ⊢
        omega
      · have := q h1 x1
        simpa [ptext, e] using this
    simpa using sa
structure Sps (sps : List DSp) : Prop where
  draw : sps[1]? = some spDraw
  digit : sps[2]? = some spDigit
  place : sps[3]? = some spPlace
  within : sps[4]? = some spWithin
  bent : sps[5]? = some spBent
  ptext : sps[6]? = some spPtext
  read : sps[8]? = some spRead
  lread : sps[9]? = some spReadL
theorem iterB {sps : List DSp} (c : Sps sps) {p : Addr} {s : List Nat} {k : Nat} {n : Int} {a1 a2 a4 a5 a6 a7 : Option D} {h : PH} {Z : DEnds} (w : Wd k s) (hk : k < 1000) (hn : n < 2 ^ 39) (st : Lit.St n h p)
    (q : ∀ s' h', Wd (k + k + 1) s' → Lit.St (n + 4) h' p → ExtBut p h h' → Z.nx [some (.ref p), a1, a2, some (.str s'), a4, a5, a6, a7] h') : rdS sps bodyB Z [some (.ref p), a1, a2, some (.str s), a4, a5, a6, a7] h := by
  simp [bodyB]
  refine spAt_ok c.bent ⟨p, s, k, n, rfl, w, hk, hn, st, fun s' h1 w1 st1 x1 => ?_⟩
  have l1 := w1.2
  have sh : s'.length + 2 ≤ sizeLine := by rw [sz]; omega
  refine spAt_ok c.read ⟨_, rfl, rfl, sh, fun h2 x2 => ?_⟩
  refine spAt_ok c.lread ⟨s', rfl, w1.ok, sh, fun h3 x3 => ?_⟩
  try dsimp only
  rw [show rpD (.str s') = rp s' from rfl, ne_pD]
  simp only [decide_true, Bool.not_true]
  exact q s' h3 w1 ((st1.ext x2).ext x3) (x1.trans (x2.trans x3).but)
theorem b_lright (sps : List DSp) (c : Sps sps) (ds h xq Q) (q : ∃ (p : Addr) (one other : List Int) (n : Int), ds = [.ref p, itup one, itup other] ∧ one.length < 8 ∧ (∀ x ∈ one, 0 ≤ x ∧ x < 60) ∧ n < 2 ^ 38 ∧ Lit.St n h p ∧ ∀ h', Lit.St (n + 12) h' p → ExtBut p h h' → Q (.bl true) h') : body sps e__law_right 8 ds h xq Q := by
  obtain ⟨p, one, other, n, rfl, hl, hb, hn, st, hQ⟩ := q
  have hs : smallI one := ⟨by omega, fun x hx => ⟨(hb x hx).1, by have := (hb x hx).2; omega⟩⟩
  rw [eL_right]
  simp [body, startD]
  refine word_e hs fun h1 x1 => ?_
  refine spAt_ok c.ptext ⟨one, rfl, hs, fun h2 x2 => ?_⟩
  try dsimp only
  rw [cmp_neS]
  simp only [decide_true, Bool.not_true]
  have w := ptext_wd hl hb
  have wl := w.2
  have sh : (ptext one).length + 2 ≤ sizeLine := by rw [sz]; omega
  have rpe : rpD (.str (ptext one)) = some one := rp_ptext hl hb
  refine spAt_ok c.read ⟨_, rfl, rfl, sh, fun h3 x3 => ?_⟩
  rw [rpe]
  try dsimp only
  rw [show cmpD .ne (pD (some one)) (.tup (one.map D.int)) h3 = cmpD .ne (pD (some one)) (pD (some one)) h3 from rfl, ne_pD]
  simp only [decide_true, Bool.not_true]
  refine spAt_ok c.read ⟨_, rfl, rfl, sh, fun h4 x4 => ?_⟩
  rw [rpe]
  try dsimp only
  rw [show b1D .repr (pD (some one)) h4 = b1D .repr (itup one) h4 from rfl]
  rw [repr_itup hl hb]
  try dsimp only
  rw [show b1D .repr (.tup (one.map D.int)) h4 = b1D .repr (itup one) h4 from rfl]
  rw [repr_itup hl hb, cmp_neS]
  simp only [decide_true, Bool.not_true]
  have x04 := ((x1.trans x2).trans x3).trans x4
  refine spAt_ok c.within ⟨one, other, rfl, ?_⟩
  refine spAt_ok c.within ⟨other, one, rfl, ?_⟩
  refine spAt_ok c.within ⟨one, one, rfl, ?_⟩
  refine spAt_ok c.within ⟨[], other, rfl, by decide, fun q5 h5 n5 e5 x5 => ?_⟩
  try dsimp only
  rw [len_tup]
  try dsimp only
  rw [Lit.sl_tup, List.length_map, cut_take, ← List.map_take]
  rw [show ∀ R, cmpD .eq (.tup ((other.take one.length).map D.int)) (.tup (one.map D.int)) h5 R = _ from fun R => eq_itup (x := other.take one.length) (y := one)]
  rw [len_tup]
  try dsimp only
  rw [Lit.sl_tup, List.length_map, cut_take, ← List.map_take]
  rw [show ∀ R, cmpD .eq (.tup ((one.take other.length).map D.int)) (.tup (other.map D.int)) h5 R = _ from fun R => eq_itup (x := one.take other.length) (y := other)]
  refine ⟨by decide, fun q6 h6 n6 e6 x6 => ?_⟩
  have t1 : decide (one.take one.length = one) = true := decide_eq_true (List.take_length)
  have t2 : decide (other.take ([] : List Int).length = []) = true := decide_eq_true (by simp)
  rw [t1, t2] at e5
  generalize decide (other.take one.length = one) = A at e5 e6
  generalize decide (one.take other.length = other) = B at e5 e6
  have cond : ((((toPD (.rol [.bl A, .bl B, .bl true, .bl true])).showable = true ∧ (toPD (.rol [.bl A, .bl B, .bl true, .bl true])).depth ≤ 60) ∧ ((toPD (.rol [.bl A, .bl B, .bl true, .bl true])).hasDict = false ∧ (toPD (.rol [.bl A, .bl B, .bl true, .bl true])).shown.length ≤ sizeLine)) ∧ (toPD (.rol [.bl A, .bl B, .bl true, .bl true])).shown.cps.toList = (toPD (.rol [.bl A, .bl B, .bl true, .bl true])).shown.cps.toList) := by
    refine ⟨?_, rfl⟩
    cases A <;> cases B <;> decide +kernel
  try dsimp only
  rw [repr_lst (x6 _ _ e5) rfl cond]
  try dsimp only
  rw [repr_lst e6 rfl cond, cmp_neS]
  simp only [decide_true, Bool.not_true]
  have y6 : Ext h h6 := (x04.trans x5).trans x6
  rw [show natsD 3 = [.int 0, .int 1, .int 2] from rfl]
  simp only [forLoop, asg_nm]
  refine iterB c w (by decide) (by omega) (st.ext y6) fun s1 h7 w1 st1 y1 => ⟨trivial, ?_⟩
  refine iterB c w1 (by decide) (by omega) st1 fun s2 h8 w2 st2 y2 => ⟨trivial, ?_⟩
  refine iterB c w2 (by decide) (by omega) st2 fun s3 h9 w3 st3 y3 => ⟨trivial, ?_⟩
  simp
  exact hQ h9 (st3.up (by omega)) (y6.but.trans ((y1.trans y2).trans y3))
def spRightP : DSp := fun ds h _ Q => ∃ (p : Addr) (one other : List Int) (n : Int), ds = [.ref p, itup one, itup other] ∧ one.length < 8 ∧ (∀ x ∈ one, 0 ≤ x ∧ x < 60) ∧ n < 2 ^ 38 ∧ Lit.St n h p ∧ ∀ h', Lit.St (n + 12) h' p → ExtBut p h h' → Q (.bl true) h'
end K04
namespace K04
open PySem PySem.Spec PyProof.Rows L2 Lit
structure Sps2 (sps : List DSp) : Prop extends Sps sps where
  right : sps[10]? = some spRightP
theorem turn (sps : List DSp) (c : Sps2 sps) (sc : D) (k cell : Int) (hk : 0 ≤ k) (hk2 : k < 1000) (x3 x4 x5 x6 x7 x8 x9 : Option D) (h0 : PH) (Z : DEnds)
    (q : ∀ x5 x6 x7 x8 h', Ext h0 h' → Z.nx [some sc, some (.int k), some (.int cell), x3, x4, x5, x6, x7, x8, x9] h') :
    rdS sps e_law_f1 Z [some sc, some (.int k), some (.int cell), x3, x4, x5, x6, x7, x8, x9] h0 := by
  simp [e_law_f1]
  refine spAt_ok c.draw ⟨cell, k, rfl, hk, by omega, fun p h1 n1 st1 x1 => ?_⟩
  refine spAt_ok c.digit ⟨p, 8, k, rfl, by decide, by decide, by omega, st1, fun r2 h2 a2 b2 st2 y2 => ?_⟩
  refine spAt_ok c.place ⟨p, r2, k + 1, rfl, a2, by omega, by omega, st2, fun one h3 l3 b3 st3 y3 => ?_⟩
  refine spAt_ok c.digit ⟨p, 8, k + 20, rfl, by decide, by decide, by omega, st3.up (by omega), fun r4 h4 a4 b4 st4 y4 => ?_⟩
  try dsimp only
  rw [Lit.sl_tup]
  refine ⟨by decide, fun q5 h5 n5 e5 x5' => ?_⟩
  refine spAt_ok c.digit ⟨p, 3, k + 21, rfl, by decide, by decide, by omega, (st4.ext x5').up (by omega), fun r6 h6 a6 b6 st6 y6 => ?_⟩
  have e6 := y6 q5 _ (St.ne st4 n5) e5
  obtain ⟨v, v1, v2⟩ := atI_in (l := ([itup one, .tup (cutL (one.map D.int) none (some r4)), .tup []] : List D)) a6 b6
  simp only [ixD, e6, v1]
  have vv : ∃ is : List Int, v = itup is ∧ is.length < 8 := by
    have l3' : one.length < 8 := by omega
    simp only [List.mem_cons, List.not_mem_nil, or_false] at v2
    rcases v2 with rfl | rfl | rfl
    · exact ⟨one, rfl, l3'⟩
    · refine ⟨cutL one none (some r4), by rw [cut_map], ?_⟩
      unfold cutL
      rw [List.length_take, List.length_drop]
      omega
    · exact ⟨[], rfl, by decide⟩
  obtain ⟨oth, rfl, lo⟩ := vv
  refine spAt_ok c.digit ⟨p, 3, k + 22, rfl, by decide, by decide, by omega, st6.up (by omega), fun r7 h7 a7 b7 st7 y7 => ?_⟩
  refine spAt_ok c.place ⟨p, r7, k + 23, rfl, a7, by omega, by omega, st7.up (by omega), fun two h8 l8 b8 st8 y8 => ?_⟩
  try dsimp only
  rw [bin_addT]
  refine ⟨by rw [sz]; simp; omega, ?_⟩
  rw [← List.map_append, Lit.sl_tup, cut_map]
  refine spAt_ok c.right ⟨p, one, _, k + 30, rfl, by omega, b3, by omega, st8.up (by omega), fun h9 st9 y9 => ?_⟩
  simp only [tru_bl, Bool.not_true]
  have z9 : Ext h0 h9 := ext_put x1 ((y2.trans (y3.trans (y4.trans (x5'.but.trans y6)))).trans ((y7.trans y8).trans y9)) n1
  refine ⟨by decide, fun q10 h10 n10 e10 x10 => ⟨by decide, by decide, fun q11 h11 n11 e11 x11 => ⟨by decide, fun q12 h12 n12 e12 x12 => ⟨by decide, fun q13 h13 n13 e13 x13 => ?_⟩⟩⟩⟩
  refine spAt_ok c.digit ⟨p, 8, k + 60, rfl, by decide, by decide, by omega, ((((st9.ext x10).ext x11).ext x12).ext x13).up (by omega), fun r14 h14 a14 b14 st14 y14 => ?_⟩
  have f10 : h14 q10 = some (.lst [.str [46]]) := y14 _ _ (St.ne st9 n10) (x13 _ _ (x12 _ _ (x11 _ _ e10)))
  have f11 : h14 q11 = _ := y14 _ _ (St.ne (st9.ext x10) n11) (x13 _ _ (x12 _ _ e11))
  have f12 : h14 q12 = _ := y14 _ _ (St.ne ((st9.ext x10).ext x11) n12) (x13 _ _ e12)
  have f13 : h14 q13 = _ := y14 _ _ (St.ne (((st9.ext x10).ext x11).ext x12) n13) e13
  simp only [ixD, f13]
  obtain ⟨odd, t5, t6⟩ := atI_in (l := ([.non, .int 7, .bl true, .tup [], .ref q10, .tup [.str [48]], .ref q11, .ref q12] : List D)) a14 b14
  rw [t5]
  have z14 : Ext h0 h14 := ext_put (((z9.trans x10).trans x11).trans (x12.trans x13)) y14 n1
  have od : isData odd h14 = true ∧ shortD2 odd ∧ rpD odd = none := by
    simp only [List.mem_cons, List.not_mem_nil, or_false] at t6
    rcases t6 with rfl | rfl | rfl | rfl | rfl | rfl | rfl | rfl
    · exact ⟨rfl, trivial, rfl⟩
    · exact ⟨rfl, trivial, rfl⟩
    · exact ⟨rfl, trivial, rfl⟩
    · exact ⟨rfl, trivial, rfl⟩
    · exact ⟨by simp only [isData, f10], trivial, rfl⟩
    · exact ⟨rfl, trivial, rfl⟩
    · exact ⟨by simp only [isData, f11], trivial, rfl⟩
    · exact ⟨by simp only [isData, f12], trivial, rfl⟩
  try dsimp only
  refine spAt_ok c.read ⟨_, rfl, od.1, od.2.1, fun h15 x15 => ?_⟩
  rw [od.2.2]
  simp only [pD, cmp_isnotN, noneD, Bool.not_true]
  exact q _ _ _ _ _ (z14.trans x15)
/-- what the law asks of is_within by hand -/
theorem turn2 (sps : List DSp) (c : Sps2 sps) (a : Int) (ha : 1 ≤ a) (ha2 : a < 10) (x0 x1 x2 x3 x5 x6 x7 x8 x9 : Option D) (h0 : PH) (Z : DEnds)
    (q : ∀ x6, Z.nx [x0, x1, x2, x3, some (.int a), x5, x6, x7, x8, x9] h0) : rdS sps e_law_f2 Z [x0, x1, x2, x3, some (.int a), x5, x6, x7, x8, x9] h0 := by
  have d1 : decide (([10 * a, 1] : List Int).take ([a, 1] : List Int).length = [a, 1]) = false := decide_eq_false fun z => by simp at z; omega
  have d2 : decide (([a, 10 + a] : List Int).take ([a, 1] : List Int).length = [a, 1]) = false := decide_eq_false fun z => by simp at z; omega
  have d3 : decide (([a, 1, 10 * a] : List Int).take ([a, 1] : List Int).length = [a, 1]) = true := decide_eq_true rfl
  have d4 : decide (([10 * a + a, a] : List Int).take ([a] : List Int).length = [a]) = false := decide_eq_false fun z => by simp at z; omega
  have d5 : decide (([a, 1] : List Int).take ([a, 10] : List Int).length = [a, 10]) = false := decide_eq_false fun z => by simp at z
  have cm : CMul 10 a := cmul_of (by decide) (by decide)
  simp [e_law_f2, cm]
  refine ⟨by decide, spAt_ok c.within ⟨[a, 1], [10 * a, 1], rfl, ?_⟩⟩
  rw [d1]
  simp only [tru_bl]
  refine ⟨by decide, spAt_ok c.within ⟨[a, 1], [a, 10 + a], rfl, ?_⟩⟩
  rw [d2]
  simp only [tru_bl]
  refine ⟨by decide, spAt_ok c.within ⟨[a, 1], [a, 1, 10 * a], rfl, ?_⟩⟩
  rw [d3]
  simp only [Bool.not_true]
  refine ⟨by decide, by decide, spAt_ok c.within ⟨[a], [10 * a + a, a], rfl, ?_⟩⟩
  rw [d4]
  simp only [tru_bl]
  refine ⟨by decide, spAt_ok c.within ⟨[a, 10], [a, 1], rfl, ?_⟩⟩
  rw [d5]
  simp only [tru_bl]
  exact q _
end K04
namespace K04
open PySem PySem.Spec PyProof.Rows L2 Lit
def spLaw : DSp := fun ds h _ Q => ∃ ns : List Int, ds = [.rol (ns.map .int)] ∧ ns.length ≤ 63 ∧ ∀ h', Q (.bl true) h'
theorem rep_len {n : Nat} {c : Nat} : (List.replicate n [c]).flatten.length = n := by simp
theorem rep_ok {n c : Nat} (h : c < 128) : okC (List.replicate n [c]).flatten = true := by
  refine okC_of fun d hd => ?_
  simp at hd
  omega
def some1 : List (List Nat) := [[], [46, 46], [48, 46], [46, 48], [48, 48], [54, 48], [53, 57, 46, 53, 57, 46, 53, 57, 46, 53, 57, 46, 53, 57, 46, 53, 57, 46, 53, 57], [48, 46, 48, 46, 48, 46, 48, 46, 48, 46, 48, 46, 48, 46, 48], [49, 46, 48, 49]]
def chkE' : E := .comp (.itL (.var 3)) (.nm 9) [9] (.cons (.cmp .ne (.call 8 (.cons (.var 9) .nil)) (.call 9 (.cons (.var 9) .nil))) .nil) (.var 9)
theorem chk_e {sps : List DSp} (c : Sps2 sps) {q : Addr} {ss : List (List Nat)} {ρ : Rho} {h : PH} {xq : XQ} {Q : D → PH → Prop} (hρ : 9 < ρ.length) (h3 : ρ[3]? = some (some (.ref q))) (hs : ∀ s ∈ ss, okC s = true ∧ s.length + 2 ≤ sizeLine) (hl : ss.length ≤ 100) (e : h q = some (.lst (ss.map D.str)))
    (k : ∀ p h', h' p = some (.lst []) → Q (.ref p) h') : rdE sps chkE' ρ h xq Q := by
  simp only [chkE', rdE_comp, rdI_itL, rdE_var, h3]
  rw [rdL_ref e]
  refine compLoop_map (fun _ => none) (fun h' => Ext h h') (fun h' x => rdL_ref (x q _ e)) _ _ _ ?_ (by rw [sz]; simp; omega) .refl ?_
  · intro d hd h' x
    obtain ⟨s, hm, rfl⟩ := List.mem_map.mp hd
    refine ⟨_, asg_nm, fun P hP => ?_⟩
    have e1 : (List.set (wipeR ρ [9]) 9 (some (D.str s)))[9]? = some (some (.str s)) := by simp [wipeR, hρ]
    simp [e1]
    have w := hs s hm
    refine spAt_ok c.read ⟨_, rfl, rfl, w.2, fun h2 x2 => ?_⟩
    refine spAt_ok c.lread ⟨s, rfl, w.1, w.2, fun h3 x3 => ?_⟩
    try dsimp only
    rw [show rpD (.str s) = rp s from rfl, ne_pD]
    simp only [decide_true, Bool.not_true]
    exact hP h3 ((x.trans x2).trans x3)
  · intro h' x p h2 n e2 x2
    have : (ss.map D.str).filterMap (fun _ => (none : Option D)) = [] := by simp
    rw [this] at e2
    exact k p h2 e2
def tailL : S := .cons (.set (.nm 3) (.lst (.cons (.str []) (.cons (.str [46, 46]) (.cons (.str [48, 46]) (.cons (.str [46, 48]) (.cons (.str [48, 48]) (.cons (.str [54, 48]) (.cons (.str [53, 57, 46, 53, 57, 46, 53, 57, 46, 53, 57, 46, 53, 57, 46, 53, 57, 46, 53, 57]) (.cons (.str [48, 46, 48, 46, 48, 46, 48, 46, 48, 46, 48, 46, 48, 46, 48]) (.cons (.str [49, 46, 48, 49]) .nil)))))))))))
  (.cons (.set (.nm 3) (.op .add (.var 3) (.lst (.cons (.op .mul (.str [49]) (.int 5000)) (.cons (.op .mul (.str [46]) (.int 5000)) (.cons (.str [46, 10]) (.cons (.str [48, 10]) (.cons (.str [10]) (.cons (.str [48, 46, 49, 10]) (.cons (.str [48, 10, 46, 49]) .nil))))))))))
  (.cons (.for_ (.itR2 (.int 1) (.int 6)) (.nm 4) e_law_f2) (.cons (.ret (.cmp .eq chkE' (.lst .nil))) .nil)))
theorem e_law_eq : e_law = .cons (.for_ (.itEL (.op .add (.sl (.var 0) .nil (.int 20)) (.lst (.cons (.b1 .sum (.var 0)) .nil)))) (.tup (.cons (.nm 1) (.cons (.nm 2) .nil))) e_law_f1) tailL := rfl
theorem tail_ok (sps : List DSp) (c : Sps2 sps) (a0 a1 a2 a3 a4 a5 a6 a7 a8 a9 : Option D) (h : PH) (Z : DEnds) (q : ∀ h', Z.rt (.bl true) h') : rdS sps tailL Z [a0, a1, a2, a3, a4, a5, a6, a7, a8, a9] h := by
  have z3 : (5000 : Int).toNat = 5000 := rfl
  unfold tailL
  rw [rdS_cons, rdS_set]
  simp only [rdE_lst, rdA_cons, rdA_nil, rdE_str, asg_nm]
  refine ⟨by decide, fun p1 h1 n1 e1 x1 => ?_⟩
  try dsimp only
  rw [rdS_cons, rdS_set]
  simp only [rdE_op, rdE_var, rdE_lst, rdA_cons, rdA_nil, rdE_str, rdE_int, asg_nm, List.set_cons_succ, List.set_cons_zero, List.getElem?_cons_succ, List.getElem?_cons_zero, bin_mulS, z3]
  refine ⟨by decide, by decide, by decide, by decide, by decide, by decide, by decide, by decide, by simp only [List.length_cons, List.length_nil]; decide, fun p2 h2 n2 e2 x2 => ?_⟩
  try dsimp only
  rw [bin_addL (x2 _ _ e1) e2]
  refine ⟨by simp only [List.length_cons, List.length_nil]; decide, fun p3 h3 n3 e3 x3 => ?_⟩
  have e3' : h3 p3 = some (.lst ((some1 ++ [(List.replicate 5000 [49]).flatten, (List.replicate 5000 [46]).flatten, [46, 10], [48, 10], [10], [48, 46, 49, 10], [48, 10, 46, 49]]).map D.str)) := by
    rw [e3, List.map_append]
    rfl
  try dsimp only
  rw [rdS_cons, rdS_for_]
  simp only [rdI_itR2, rdE_int]
  refine ⟨⟨by decide, by decide, by decide, by decide⟩, ?_⟩
  refine forLoop_inv (fun ds ρ h' => h' = h3 ∧ (∃ a4 a6, ρ = [a0, a1, a2, some (.ref p3), a4, a5, a6, a7, a8, a9]) ∧ ∀ d ∈ ds, ∃ a : Int, d = .int a ∧ 1 ≤ a ∧ a < 10) (fun _ _ _ _ => trivial) ?_ ?_ _ _ _ ⟨rfl, ⟨_, _, rfl⟩, ?_⟩
  · rintro d ds ρ h' ⟨rfl, ⟨a4, a6, rfl⟩, hd⟩
    obtain ⟨a, rfl, ha, ha2⟩ := hd d (by simp)
    refine ⟨_, asg_nm, fun N hN => ?_⟩
    refine turn2 sps c a ha ha2 a0 a1 a2 _ a5 a6 a7 a8 a9 _ _ fun x6 => hN _ _ ⟨rfl, ⟨_, _, rfl⟩, fun d' hd' => hd d' (by simp [hd'])⟩
  · rintro ρ h' ⟨rfl, ⟨a4, a6, rfl⟩, _⟩
    try dsimp only
    rw [rdS_cons, rdS_ret, rdE_cmp]
    refine chk_e c (by simp) rfl ?_ (by simp [some1]) e3' fun p4 h4 e4 => ?_
    · intro s hs
      rcases List.mem_append.mp hs with z | z
      · have : ∀ s ∈ some1, okC s = true ∧ s.length + 2 ≤ sizeLine := by decide +kernel
        exact this s z
      · simp only [List.mem_cons, List.not_mem_nil, or_false] at z
        rcases z with rfl | rfl | rfl | rfl | rfl | rfl | rfl
        · exact ⟨rep_ok (by decide), by rw [rep_len, sz]; decide⟩
        · exact ⟨rep_ok (by decide), by rw [rep_len, sz]; decide⟩
        all_goals exact ⟨by decide, by decide⟩
    · simp only [rdE_lst, rdA_nil]
      refine ⟨by decide, fun p5 h5 n5 e5 x5 => ?_⟩
      try dsimp only
      rw [eq_strs (as := []) (bs := []) (x5 _ _ e4) e5 rfl rfl]
      exact q h5
  · intro d hd
    obtain ⟨j, hj, rfl⟩ := List.mem_map.mp hd
    rw [List.mem_range] at hj
    have hj : j < 5 := hj
    exact ⟨_, rfl, by omega, by omega⟩
theorem body_law (sps : List DSp) (c : Sps2 sps) (ds h xq Q) (q : spLaw ds h xq Q) : body sps e_law 10 ds h xq Q := by
  obtain ⟨ns, rfl, hn, hQ⟩ := q
  rw [e_law_eq]
  simp [body, startD]
  refine fun p1 h1 n1 e1 x1 => ?_
  have su : ∀ (h : PH) (Q : D → PH → Prop), b1D .sum (.rol (ns.map D.int)) h Q = Q (.int ns.sum) h := fun h Q => by simp only [b1D, rdL, ints_int]
  try dsimp only
  rw [su]
  refine ⟨by decide, fun p2 h2 n2 e2 x2 => ?_⟩
  try dsimp only
  rw [bin_addL (x2 _ _ e1) e2]
  have cl : (cutL (ns.map D.int) none (some 20)).length ≤ 20 := cut_to (n := 20)
  rw [cut_map] at e1 cl ⊢
  refine ⟨by rw [sz]; simp at cl ⊢; omega, fun p3 h3 n3 e3 x3 => ?_⟩
  try dsimp only
  rw [rdL_ref e3]
  try dsimp only
  generalize hl : (cutL ns none (some 20)).map D.int ++ [D.int ns.sum] = l at e3
  have ll : l.length ≤ 21 := by rw [← hl]; simp at cl ⊢; omega
  have li : ∀ d ∈ l, ∃ c : Int, d = .int c := fun d hd => by
    rw [← hl] at hd
    rcases List.mem_append.mp hd with z | z
    · obtain ⟨c, _, rfl⟩ := List.mem_map.mp z
      exact ⟨c, rfl⟩
    · simp at z
      exact ⟨_, z⟩
  refine forLoop_inv (fun ds ρ h' => (∃ x1 x2 x3 x4 x5 x6 x7 x8 x9, ρ = [some (.rol (ns.map D.int)), x1, x2, x3, x4, x5, x6, x7, x8, x9]) ∧ Ext h3 h' ∧ ∀ d ∈ ds, ∃ k c : Int, d = .tup [.int k, .int c] ∧ 0 ≤ k ∧ k < 1000) (fun ds ρ h' p => rdL_ref (p.2.1 _ _ e3)) ?_ ?_ _ _ _ ⟨⟨_, _, _, _, _, _, _, _, _, rfl⟩, .refl, ?_⟩
  · rintro d ds ρ h' ⟨⟨x1, x2, x3, x4, x5, x6, x7, x8, x9, rfl⟩, x', hd⟩
    obtain ⟨k, cell, rfl, hk, hk2⟩ := hd d (by simp)
    refine ⟨[some (.rol (ns.map D.int)), some (.int k), some (.int cell), x3, x4, x5, x6, x7, x8, x9], by simp, fun N hN => ?_⟩
    refine turn sps c _ k cell hk hk2 x3 x4 x5 x6 x7 x8 x9 h' _ fun y5 y6 y7 y8 h'' x'' => ?_
    exact hN _ _ ⟨⟨_, _, _, _, _, _, _, _, _, rfl⟩, x'.trans x'', fun d' hd' => hd d' (by simp [hd'])⟩
  · rintro ρ h' ⟨⟨x1, x2, x3, x4, x5, x6, x7, x8, x9, rfl⟩, x', _⟩
    exact tail_ok sps c _ _ _ _ _ _ _ _ _ _ h' _ fun h'' => hQ h''
  · intro d hd
    obtain ⟨x, hx, y, hy, rfl⟩ := pairs_mem hd
    obtain ⟨k, rfl, hk⟩ := nats_mem hx
    obtain ⟨cc, rfl⟩ := li y hy
    exact ⟨k, cc, rfl, by omega, by omega⟩
end K04
namespace K04
open PySem PySem.Spec PyProof.Rows L2 Lit
def d__law_mixed : He.DefD := ⟨("_law_mixed", none), "_law_mixed", "_law_mixed", defArgs (top 12), defBody (top 12), defScope (top 12), [], []⟩
def d__law_draw : He.DefD := ⟨("_law_draw", none), "_law_draw", "_law_draw", defArgs (top 13), defBody (top 13), defScope (top 13), [], []⟩
def d__law_digit : He.DefD := ⟨("_law_digit", none), "_law_digit", "_law_digit", defArgs (top 14), defBody (top 14), defScope (top 14), [], []⟩
def d__law_place : He.DefD := ⟨("_law_place", none), "_law_place", "_law_place", defArgs (top 15), defBody (top 15), defScope (top 15), [], []⟩
def d_is_within : He.DefD := ⟨("is_within", none), "is_within", "is_within", defArgs (top 6), defBody (top 6), defScope (top 6), [], []⟩
def d__law_bent : He.DefD := ⟨("_law_bent", none), "_law_bent", "_law_bent", defArgs (top 17), defBody (top 17), defScope (top 17), [], []⟩
def d_place_text : He.DefD := ⟨("place_text", none), "place_text", "place_text", defArgs (top 9), defBody (top 9), defScope (top 9), [], []⟩
def d_number_of : He.DefD := ⟨("number_of", none), "number_of", "number_of", defArgs (top 3), defBody (top 3), defScope (top 3), [], []⟩
def d_read_place : He.DefD := ⟨("read_place", none), "read_place", "read_place", defArgs (top 10), defBody (top 10), defScope (top 10), [], []⟩
def d__law_read : He.DefD := ⟨("_law_read", none), "_law_read", "_law_read", defArgs (top 16), defBody (top 16), defScope (top 16), [], []⟩
def d__law_right : He.DefD := ⟨("_law_right", none), "_law_right", "_law_right", defArgs (top 18), defBody (top 18), defScope (top 18), [], []⟩
def d_law : He.DefD := ⟨("law", none), "law", "law", defArgs (top 19), defBody (top 19), defScope (top 19), [], []⟩
def fnL : List He.DefD := [d__law_mixed, d__law_draw, d__law_digit, d__law_place, d_is_within, d__law_bent, d_place_text, d_number_of, d_read_place, d__law_read, d__law_right, d_law]
def faL : List He.Fa := [.glo "_law_mixed", .glo "_law_draw", .glo "_law_digit", .glo "_law_place", .glo "is_within", .glo "_law_bent", .glo "place_text", .glo "number_of", .glo "read_place", .glo "_law_read", .glo "_law_right", .glo "law", .free "range", .free "tuple", .free "len", .free "str", .free "isinstance", .free "all", .free "int", .free "any", .free "max", .free "repr", .free "enumerate", .free "sum", .int "MOST_FIGURES" 2, .int "MOST_DEEP" 8, .int "MOST_AT" 59, .str "FIGURES" (mkS [48, 49, 50, 51, 52, 53, 54, 55, 56, 57])]
def loose : List PySem.Str := ([("FIGURES" : PySem.Str), ("MOST_FIGURES" : PySem.Str), ("number_of" : PySem.Str), ("MOST_DEEP" : PySem.Str), ("is_within" : PySem.Str), ("MOST_AT" : PySem.Str), ("place_text" : PySem.Str), ("read_place" : PySem.Str), ("_law_mixed" : PySem.Str), ("_law_draw" : PySem.Str), ("_law_digit" : PySem.Str), ("_law_place" : PySem.Str), ("_law_read" : PySem.Str), ("_law_bent" : PySem.Str), ("_law_right" : PySem.Str)] : List PySem.Str)
abbrev Rw : PySem.W.OpenRow := PySem.W.OpenLaw.row PySem.Challenge.rw_marksthrough_k04_places_told
abbrev hk : PySem.W.Hook := He.hookD 5 faL fnL
def ob (s : PySem.W.SharedT) : He.AlD := He.obsDG 5 faL fnL (HandSHeadRun.getT s)
theorem ob_eq (s : PySem.W.SharedT) : ob s = hk.obs s.abs := He.obsDG_eq (HandSHeadRun.getT_eq s)
theorem run (w : World) : HandSHeadRun.RunEq Rw (PySem.W.view Rw.prog [19]) hk ob 20000 loose w := by
  intro os
  kernel_rfl
theorem facts {P : Program} {w : World} {K : PySem.W.Frag} {h : Heap} {mg : Str → Option Value} {f : Addr} (X : K.In h) (Gn : h.Ns mainGlobals mg) (hfa : mg ("law" : Str) = some (.ref f)) (c : He.SaysD faL fnL K) :
    ∃ fd : FuncData, (∀ (s : Shared) (v : Value), BindsTo s fd ⟨[v], []⟩ [("script", v)]) ∧ ∀ base : Heap, K.In base → base.Ns mainGlobals mg → FnG P w K mg base 12 f fd ["script"] (liftSp K spLaw) := by
  obtain ⟨fd0, F0⟩ := c.def_ 0 (d := d__law_mixed) rfl
  obtain ⟨fd1, F1⟩ := c.def_ 1 (d := d__law_draw) rfl
  obtain ⟨fd2, F2⟩ := c.def_ 2 (d := d__law_digit) rfl
  obtain ⟨fd3, F3⟩ := c.def_ 3 (d := d__law_place) rfl
  obtain ⟨fd4, F4⟩ := c.def_ 4 (d := d_is_within) rfl
  obtain ⟨fd5, F5⟩ := c.def_ 5 (d := d__law_bent) rfl
  obtain ⟨fd6, F6⟩ := c.def_ 6 (d := d_place_text) rfl
  obtain ⟨fd7, F7⟩ := c.def_ 7 (d := d_number_of) rfl
  obtain ⟨fd8, F8⟩ := c.def_ 8 (d := d_read_place) rfl
  obtain ⟨fd9, F9⟩ := c.def_ 9 (d := d__law_read) rfl
  obtain ⟨fd10, F10⟩ := c.def_ 10 (d := d__law_right) rfl
  obtain ⟨fd11, F11⟩ := c.def_ 11 (d := d_law) rfl
  have e := hfa.symm.trans (He.glo_ok X Gn (c.fact 11 (f := .glo "law") rfl))
  cases e
  have b := FunD.bindsA (ps := ["script"]) F11 fun _ _ _ _ _ _ us hl => match us, hl with | [_], _ => rfl
  refine ⟨fd11, fun s v => b s [v] rfl, fun base XB GB => ?_⟩
  have a0 : AllOk P w K mg base 0 [] := trivial
  have o0 := okd_of (P := P) (w := w) (base := base) (N := n__law_mixed) (ps := ["cell", "k"]) (fns := []) (gi := i__law_mixed) (gs := s__law_mixed) (bl := b__law_mixed) (e := e__law_mixed) (sp := spMixed) F0 (He.glo_ok XB GB (c.fact 0 (f := .glo "_law_mixed") rfl)) sc__law_mixed a0
    (blt_of XB GB c (by decide +kernel)) (gis_of XB GB c (by decide +kernel)) (gss_of XB GB c (by decide +kernel)) c__law_mixed (F0.bindsN fun _ _ _ _ _ _ us hl => match us, hl with | [_, _], _ => rfl)
    (fun ds h xq Q q => by simp only [spMixed] at q; first | (obtain ⟨_, rfl, _⟩ := q; rfl) | (obtain ⟨_, _, rfl, _⟩ := q; rfl) | (obtain ⟨_, _, _, rfl, _⟩ := q; rfl) | (obtain ⟨_, _, _, _, rfl, _⟩ := q; rfl)) (fun ds h xq Q q => b_mixed _ ds h xq Q q)
  have a1 : AllOk P w K mg base 1 [("_law_mixed", spMixed)] := (a0.up (Nat.le_succ _)).snoc o0.2
  have o1 := okd_of (P := P) (w := w) (base := base) (N := n__law_draw) (ps := ["cell", "k"]) (fns := [("_law_mixed", spMixed)]) (gi := i__law_draw) (gs := s__law_draw) (bl := b__law_draw) (e := e__law_draw) (sp := spDraw) F1 (He.glo_ok XB GB (c.fact 1 (f := .glo "_law_draw") rfl)) sc__law_draw a1
    (blt_of XB GB c (by decide +kernel)) (gis_of XB GB c (by decide +kernel)) (gss_of XB GB c (by decide +kernel)) c__law_draw (F1.bindsN fun _ _ _ _ _ _ us hl => match us, hl with | [_, _], _ => rfl)
    (fun ds h xq Q q => by simp only [spDraw] at q; first | (obtain ⟨_, rfl, _⟩ := q; rfl) | (obtain ⟨_, _, rfl, _⟩ := q; rfl) | (obtain ⟨_, _, _, rfl, _⟩ := q; rfl) | (obtain ⟨_, _, _, _, rfl, _⟩ := q; rfl)) (fun ds h xq Q q => b_draw _ rfl ds h xq Q q)
  have a2 : AllOk P w K mg base 2 [("_law_mixed", spMixed), ("_law_draw", spDraw)] := (a1.up (Nat.le_succ _)).snoc o1.2
  have o2 := okd_of (P := P) (w := w) (base := base) (N := n__law_digit) (ps := ["state", "many"]) (fns := [("_law_mixed", spMixed), ("_law_draw", spDraw)]) (gi := i__law_digit) (gs := s__law_digit) (bl := b__law_digit) (e := e__law_digit) (sp := spDigit) F2 (He.glo_ok XB GB (c.fact 2 (f := .glo "_law_digit") rfl)) sc__law_digit a2
    (blt_of XB GB c (by decide +kernel)) (gis_of XB GB c (by decide +kernel)) (gss_of XB GB c (by decide +kernel)) c__law_digit (F2.bindsN fun _ _ _ _ _ _ us hl => match us, hl with | [_, _], _ => rfl)
    (fun ds h xq Q q => by simp only [spDigit] at q; first | (obtain ⟨_, rfl, _⟩ := q; rfl) | (obtain ⟨_, _, rfl, _⟩ := q; rfl) | (obtain ⟨_, _, _, rfl, _⟩ := q; rfl) | (obtain ⟨_, _, _, _, rfl, _⟩ := q; rfl)) (fun ds h xq Q q => b_digit _ rfl ds h xq Q q)
  have a3 : AllOk P w K mg base 3 [("_law_mixed", spMixed), ("_law_draw", spDraw), ("_law_digit", spDigit)] := (a2.up (Nat.le_succ _)).snoc o2.2
  have o3 := okd_of (P := P) (w := w) (base := base) (N := n__law_place) (ps := ["state", "many"]) (fns := [("_law_mixed", spMixed), ("_law_draw", spDraw), ("_law_digit", spDigit)]) (gi := i__law_place) (gs := s__law_place) (bl := b__law_place) (e := e__law_place) (sp := spPlace) F3 (He.glo_ok XB GB (c.fact 3 (f := .glo "_law_place") rfl)) sc__law_place a3
    (blt_of XB GB c (by decide +kernel)) (gis_of XB GB c (by decide +kernel)) (gss_of XB GB c (by decide +kernel)) c__law_place (F3.bindsN fun _ _ _ _ _ _ us hl => match us, hl with | [_, _], _ => rfl)
    (fun ds h xq Q q => by simp only [spPlace] at q; first | (obtain ⟨_, rfl, _⟩ := q; rfl) | (obtain ⟨_, _, rfl, _⟩ := q; rfl) | (obtain ⟨_, _, _, rfl, _⟩ := q; rfl) | (obtain ⟨_, _, _, _, rfl, _⟩ := q; rfl)) (fun ds h xq Q q => b_place _ rfl ds h xq Q q)
  have a4 : AllOk P w K mg base 4 [("_law_mixed", spMixed), ("_law_draw", spDraw), ("_law_digit", spDigit), ("_law_place", spPlace)] := (a3.up (Nat.le_succ _)).snoc o3.2
  have o4 := okd_of (P := P) (w := w) (base := base) (N := n_is_within) (ps := ["place", "other"]) (fns := [("_law_mixed", spMixed), ("_law_draw", spDraw), ("_law_digit", spDigit), ("_law_place", spPlace)]) (gi := i_is_within) (gs := s_is_within) (bl := b_is_within) (e := e_is_within) (sp := spWithin) F4 (He.glo_ok XB GB (c.fact 4 (f := .glo "is_within") rfl)) sc_is_within a4
    (blt_of XB GB c (by decide +kernel)) (gis_of XB GB c (by decide +kernel)) (gss_of XB GB c (by decide +kernel)) c_is_within (F4.bindsN fun _ _ _ _ _ _ us hl => match us, hl with | [_, _], _ => rfl)
    (fun ds h xq Q q => by simp only [spWithin] at q; first | (obtain ⟨_, rfl, _⟩ := q; rfl) | (obtain ⟨_, _, rfl, _⟩ := q; rfl) | (obtain ⟨_, _, _, rfl, _⟩ := q; rfl) | (obtain ⟨_, _, _, _, rfl, _⟩ := q; rfl)) (fun ds h xq Q q => b_within _ ds h xq Q q)
  have a5 : AllOk P w K mg base 5 [("_law_mixed", spMixed), ("_law_draw", spDraw), ("_law_digit", spDigit), ("_law_place", spPlace), ("is_within", spWithin)] := (a4.up (Nat.le_succ _)).snoc o4.2
  have o5 := okd_of (P := P) (w := w) (base := base) (N := n__law_bent) (ps := ["state", "word"]) (fns := [("_law_mixed", spMixed), ("_law_draw", spDraw), ("_law_digit", spDigit), ("_law_place", spPlace), ("is_within", spWithin)]) (gi := i__law_bent) (gs := s__law_bent) (bl := b__law_bent) (e := e__law_bent) (sp := spBent) F5 (He.glo_ok XB GB (c.fact 5 (f := .glo "_law_bent") rfl)) sc__law_bent a5
    (blt_of XB GB c (by decide +kernel)) (gis_of XB GB c (by decide +kernel)) (gss_of XB GB c (by decide +kernel)) c__law_bent (F5.bindsN fun _ _ _ _ _ _ us hl => match us, hl with | [_, _], _ => rfl)
    (fun ds h xq Q q => by simp only [spBent] at q; first | (obtain ⟨_, rfl, _⟩ := q; rfl) | (obtain ⟨_, _, rfl, _⟩ := q; rfl) | (obtain ⟨_, _, _, rfl, _⟩ := q; rfl) | (obtain ⟨_, _, _, _, rfl, _⟩ := q; rfl)) (fun ds h xq Q q => b_bent _ rfl ds h xq Q q)
  have a6 : AllOk P w K mg base 6 [("_law_mixed", spMixed), ("_law_draw", spDraw), ("_law_digit", spDigit), ("_law_place", spPlace), ("is_within", spWithin), ("_law_bent", spBent)] := (a5.up (Nat.le_succ _)).snoc o5.2
  have o6 := okd_of (P := P) (w := w) (base := base) (N := n_place_text) (ps := ["place"]) (fns := [("_law_mixed", spMixed), ("_law_draw", spDraw), ("_law_digit", spDigit), ("_law_place", spPlace), ("is_within", spWithin), ("_law_bent", spBent)]) (gi := i_place_text) (gs := s_place_text) (bl := b_place_text) (e := e_place_text) (sp := spPtext) F6 (He.glo_ok XB GB (c.fact 6 (f := .glo "place_text") rfl)) sc_place_text a6
    (blt_of XB GB c (by decide +kernel)) (gis_of XB GB c (by decide +kernel)) (gss_of XB GB c (by decide +kernel)) c_place_text (F6.bindsN fun _ _ _ _ _ _ us hl => match us, hl with | [_], _ => rfl)
    (fun ds h xq Q q => by simp only [spPtext] at q; first | (obtain ⟨_, rfl, _⟩ := q; rfl) | (obtain ⟨_, _, rfl, _⟩ := q; rfl) | (obtain ⟨_, _, _, rfl, _⟩ := q; rfl) | (obtain ⟨_, _, _, _, rfl, _⟩ := q; rfl)) (fun ds h xq Q q => b_ptext _ ds h xq Q q)
  have a7 : AllOk P w K mg base 7 [("_law_mixed", spMixed), ("_law_draw", spDraw), ("_law_digit", spDigit), ("_law_place", spPlace), ("is_within", spWithin), ("_law_bent", spBent), ("place_text", spPtext)] := (a6.up (Nat.le_succ _)).snoc o6.2
  have o7 := okd_of (P := P) (w := w) (base := base) (N := n_number_of) (ps := ["word"]) (fns := [("_law_mixed", spMixed), ("_law_draw", spDraw), ("_law_digit", spDigit), ("_law_place", spPlace), ("is_within", spWithin), ("_law_bent", spBent), ("place_text", spPtext)]) (gi := i_number_of) (gs := s_number_of) (bl := b_number_of) (e := e_number_of) (sp := spNumber) F7 (He.glo_ok XB GB (c.fact 7 (f := .glo "number_of") rfl)) sc_number_of a7
    (blt_of XB GB c (by decide +kernel)) (gis_of XB GB c (by decide +kernel)) (gss_of XB GB c (by decide +kernel)) c_number_of (F7.bindsN fun _ _ _ _ _ _ us hl => match us, hl with | [_], _ => rfl)
    (fun ds h xq Q q => by simp only [spNumber] at q; first | (obtain ⟨_, rfl, _⟩ := q; rfl) | (obtain ⟨_, _, rfl, _⟩ := q; rfl) | (obtain ⟨_, _, _, rfl, _⟩ := q; rfl) | (obtain ⟨_, _, _, _, rfl, _⟩ := q; rfl)) (fun ds h xq Q q => b_number _ ds h xq Q q)
  have a8 : AllOk P w K mg base 8 [("_law_mixed", spMixed), ("_law_draw", spDraw), ("_law_digit", spDigit), ("_law_place", spPlace), ("is_within", spWithin), ("_law_bent", spBent), ("place_text", spPtext), ("number_of", spNumber)] := (a7.up (Nat.le_succ _)).snoc o7.2
  have o8 := okd_of (P := P) (w := w) (base := base) (N := n_read_place) (ps := ["text"]) (fns := [("_law_mixed", spMixed), ("_law_draw", spDraw), ("_law_digit", spDigit), ("_law_place", spPlace), ("is_within", spWithin), ("_law_bent", spBent), ("place_text", spPtext), ("number_of", spNumber)]) (gi := i_read_place) (gs := s_read_place) (bl := b_read_place) (e := e_read_place) (sp := spRead) F8 (He.glo_ok XB GB (c.fact 8 (f := .glo "read_place") rfl)) sc_read_place a8
    (blt_of XB GB c (by decide +kernel)) (gis_of XB GB c (by decide +kernel)) (gss_of XB GB c (by decide +kernel)) c_read_place (F8.bindsN fun _ _ _ _ _ _ us hl => match us, hl with | [_], _ => rfl)
    (fun ds h xq Q q => by simp only [spRead] at q; first | (obtain ⟨_, rfl, _⟩ := q; rfl) | (obtain ⟨_, _, rfl, _⟩ := q; rfl) | (obtain ⟨_, _, _, rfl, _⟩ := q; rfl) | (obtain ⟨_, _, _, _, rfl, _⟩ := q; rfl)) (fun ds h xq Q q => b_read _ 7 rfl ds h xq Q q)
  have a9 : AllOk P w K mg base 9 [("_law_mixed", spMixed), ("_law_draw", spDraw), ("_law_digit", spDigit), ("_law_place", spPlace), ("is_within", spWithin), ("_law_bent", spBent), ("place_text", spPtext), ("number_of", spNumber), ("read_place", spRead)] := (a8.up (Nat.le_succ _)).snoc o8.2
  have o9 := okd_of (P := P) (w := w) (base := base) (N := n__law_read) (ps := ["word"]) (fns := [("_law_mixed", spMixed), ("_law_draw", spDraw), ("_law_digit", spDigit), ("_law_place", spPlace), ("is_within", spWithin), ("_law_bent", spBent), ("place_text", spPtext), ("number_of", spNumber), ("read_place", spRead)]) (gi := i__law_read) (gs := s__law_read) (bl := b__law_read) (e := e__law_read) (sp := spReadL) F9 (He.glo_ok XB GB (c.fact 9 (f := .glo "_law_read") rfl)) sc__law_read a9
    (blt_of XB GB c (by decide +kernel)) (gis_of XB GB c (by decide +kernel)) (gss_of XB GB c (by decide +kernel)) c__law_read (F9.bindsN fun _ _ _ _ _ _ us hl => match us, hl with | [_], _ => rfl)
    (fun ds h xq Q q => by simp only [spReadL] at q; first | (obtain ⟨_, rfl, _⟩ := q; rfl) | (obtain ⟨_, _, rfl, _⟩ := q; rfl) | (obtain ⟨_, _, _, rfl, _⟩ := q; rfl) | (obtain ⟨_, _, _, _, rfl, _⟩ := q; rfl)) (fun ds h xq Q q => b_lread _ ds h xq Q q)
  have a10 : AllOk P w K mg base 10 [("_law_mixed", spMixed), ("_law_draw", spDraw), ("_law_digit", spDigit), ("_law_place", spPlace), ("is_within", spWithin), ("_law_bent", spBent), ("place_text", spPtext), ("number_of", spNumber), ("read_place", spRead), ("_law_read", spReadL)] := (a9.up (Nat.le_succ _)).snoc o9.2
  have o10 := okd_of (P := P) (w := w) (base := base) (N := n__law_right) (ps := ["state", "one", "other"]) (fns := [("_law_mixed", spMixed), ("_law_draw", spDraw), ("_law_digit", spDigit), ("_law_place", spPlace), ("is_within", spWithin), ("_law_bent", spBent), ("place_text", spPtext), ("number_of", spNumber), ("read_place", spRead), ("_law_read", spReadL)]) (gi := i__law_right) (gs := s__law_right) (bl := b__law_right) (e := e__law_right) (sp := spRightP) F10 (He.glo_ok XB GB (c.fact 10 (f := .glo "_law_right") rfl)) sc__law_right a10
    (blt_of XB GB c (by decide +kernel)) (gis_of XB GB c (by decide +kernel)) (gss_of XB GB c (by decide +kernel)) c__law_right (F10.bindsN fun _ _ _ _ _ _ us hl => match us, hl with | [_, _, _], _ => rfl)
    (fun ds h xq Q q => by simp only [spRightP] at q; first | (obtain ⟨_, rfl, _⟩ := q; rfl) | (obtain ⟨_, _, rfl, _⟩ := q; rfl) | (obtain ⟨_, _, _, rfl, _⟩ := q; rfl) | (obtain ⟨_, _, _, _, rfl, _⟩ := q; rfl)) (fun ds h xq Q q => b_lright _ ⟨rfl, rfl, rfl, rfl, rfl, rfl, rfl, rfl⟩ ds h xq Q q)
  have a11 : AllOk P w K mg base 11 [("_law_mixed", spMixed), ("_law_draw", spDraw), ("_law_digit", spDigit), ("_law_place", spPlace), ("is_within", spWithin), ("_law_bent", spBent), ("place_text", spPtext), ("number_of", spNumber), ("read_place", spRead), ("_law_read", spReadL), ("_law_right", spRightP)] := (a10.up (Nat.le_succ _)).snoc o10.2
  have o11 := okd_of (P := P) (w := w) (base := base) (N := n_law) (ps := ["script"]) (fns := [("_law_mixed", spMixed), ("_law_draw", spDraw), ("_law_digit", spDigit), ("_law_place", spPlace), ("is_within", spWithin), ("_law_bent", spBent), ("place_text", spPtext), ("number_of", spNumber), ("read_place", spRead), ("_law_read", spReadL), ("_law_right", spRightP)]) (gi := i_law) (gs := s_law) (bl := b_law) (e := e_law) (sp := spLaw) F11 (He.glo_ok XB GB (c.fact 11 (f := .glo "law") rfl)) sc_law a11
    (blt_of XB GB c (by decide +kernel)) (gis_of XB GB c (by decide +kernel)) (gss_of XB GB c (by decide +kernel)) c_law (F11.bindsN fun _ _ _ _ _ _ us hl => match us, hl with | [_], _ => rfl)
    (fun ds h xq Q q => by simp only [spLaw] at q; first | (obtain ⟨_, rfl, _⟩ := q; rfl) | (obtain ⟨_, _, rfl, _⟩ := q; rfl) | (obtain ⟨_, _, _, rfl, _⟩ := q; rfl) | (obtain ⟨_, _, _, _, rfl, _⟩ := q; rfl)) (fun ds h xq Q q => body_law _ ⟨⟨rfl, rfl, rfl, rfl, rfl, rfl, rfl, rfl⟩, rfl⟩ ds h xq Q q)
  exact o11.1
end K04
open PySem PySem.W PySem.Calls PyProof.Rows
theorem PySem.Challenge.cw_marksthrough_k04_places_told_holds : PySem.Challenge.rw_marksthrough_k04_places_told.Holds := by
  w_on; o_law
  refine HandSHeadRun.head_any (r := OpenLaw.row PySem.Challenge.rw_marksthrough_k04_places_told) (q := view (OpenLaw.row PySem.Challenge.rw_marksthrough_k04_places_told).prog [19]) (H := K04.hk) (ob := K04.ob) (M := 20000) (loose := K04.loose) (d := HandSHeadRun.topDef (OpenLaw.row PySem.Challenge.rw_marksthrough_k04_places_told).prog 19) (kwd := []) K04.ob_eq
    (by kernel_rfl) (fun s => by kernel_rfl) K04.run (by kernel_rfl) (by kernel_rfl) (by kernel_rfl) (by rfl) (by first | assumption | decide +kernel) (by decide +kernel) ⟨rfl, rfl, rfl, rfl, rfl, by decide +kernel⟩ ?hw ?hc
  case hw => w_witness2
  case hc =>
    refine Lit.law_ends (l := PySem.Challenge.rw_marksthrough_k04_places_told) (n := 63) (k := 12) (x := "script") rfl (by decide) (by kernel_rfl) ⟨rfl, by decide, by decide⟩ ?F
    intro w mg fa h Y Gn hmg0
    obtain ⟨K, KX, c⟩ := Y
    have hmg : mg ("law" : PySem.Str) = some (.ref fa) := by
      have e : (HandSHeadRun.topDef (OpenLaw.row PySem.Challenge.rw_marksthrough_k04_places_told).prog 19).name = ("law" : PySem.Str) := by kernel_rfl
      rw [← e]
      exact hmg0
    obtain ⟨fd, hb, hF⟩ := K04.facts (P := (PySem.Challenge.rw_marksthrough_k04_places_told).prog) (w := w) KX Gn hmg c
    exact ⟨K, fd, K04.spLaw, KX, hb, fun ns hl => ⟨ns, rfl, hl, fun _ => rfl⟩, hF⟩
