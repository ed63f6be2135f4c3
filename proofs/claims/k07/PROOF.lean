import PyProof.Rows.All
import Wide.All
import OpenK.AllK
import Wide.FinOn
import HandS.ForMost
import HandS.Exc
import HandS.TryOnly
import HandS.ExcOwn
import HandS.CallSlots
import HandS.WordsExc
import HandS.Walk
import HandS.HeadHook2
import HandS.List
import HandS.TupMul
import HandS.StrMore
import HandS.TupAny
import HandS.Style
import HandS.IsInst
import HandS.TupLen
import HandS.RaiseMore
import HandS.More
import KE.DataMinMax
import HandS.SetFor
import HandS.Comp
import HandS.Flow
import HandS.ExcInit
import HandS.ClsMeth
import HandS.Codes
import HandS.ExcField
import KE.KExcIs
import KE.GoesEnum
import HandS.Zip
import HandS.ExcValue
import HandS.Ends
import HandS.HeadEnd
import HandS.Head0
import HandS.Head1
import HandS.Head2
import HandS.HeadHook1
import HandS.HeadHook3
import PySem.Challenge.RW_marksthrough_k07_refusals_by_hand
set_option Elab.async false
set_option linter.all false
set_option maxRecDepth 100000
set_option maxHeartbeats 0
/-! Values with tuples told through, objects by their places, and how they stand for what the layer tracks. -/
namespace Lit
open PySem PySem.Spec PyProof.Rows L2

/-- a value; a tuple is told through -/
inductive D where
  | non | bl (b : Bool) | int (i : Int) | str (s : List Nat) | ref (a : Addr) | tup (ds : List D) | rol (ds : List D)

/-- an object that may change -/
inductive PO where
  | lst (ds : List D) | dct (kvs : List (D × D)) | ins (c : Str) (fs : List (Str × D)) | exc (c : Str) (fs : List (Str × D))

abbrev PH := Addr → Option PO
abbrev Rho := List (Option D)
/-- an exception in flight -/
structure Exc where
  cls : Str
  fs : List (Str × D)

abbrev mkS (s : List Nat) : Str := ⟨s.toArray⟩

/-- a list that is only read -/
def FzL (K : PySem.W.Frag) (H : Hp) (a : Addr) (xs : List V) : Prop :=
  (∃ o, H a = some (.frz o (.lst xs))) ∨
    ∃ (its : List Value) (n : Nat), K.lookup a = some { cls := .type "list", data := .seq its.toArray n } ∧ its.length ≤ sizeLine ∧ Vals xs its
theorem FzL.sq {K : PySem.W.Frag} {H : Hp} {a : Addr} {xs : List V} (q : FzL K H a xs) : SqL K H a xs := by
  rcases q with q | q
  · exact .inl (.inr q)
  · obtain ⟨its, n, e, z, r⟩ := q
    exact .inr ⟨_, its.toArray, n, e, rfl, rfl, rfl, by simpa using z, by simpa using r⟩

/-- texts alone, one at least -/
def allS : List D → Bool
  | [] => true
  | .str _ :: r => allS r
  | _ => false
def strs1 : List D → Bool
  | .str _ :: r => allS r
  | _ => false
/-- keys that a dict may be asked for -/
def keyOk : D → Bool
  | .int _ => true
  | .str _ => true
  | .tup ds => (ds.all fun d => match d with
    | .int _ => true
    | .str _ => true
    | _ => false) && !(strs1 ds)
  | _ => false
/-- a tuple: tracked, or a constant of the module that is no key -/
def TupR (K : PySem.W.Frag) (H : Hp) (a : Addr) (vs : List V) (k : Bool) : Prop :=
  H a = some (.tup vs) ∨ (k = false ∧ ∃ (o : Obj) (its : Array Value) (n : Nat), K.lookup a = some o ∧ o.cls = .type "tuple" ∧ o.data = .seq its n ∧ its.size ≤ sizeLine ∧ Vals vs its.toList)
theorem TupR.sq {K : PySem.W.Frag} {H : Hp} {a : Addr} {vs : List V} {k : Bool} (t : TupR K H a vs k) : SqT K H a vs := by
  rcases t with t | ⟨_, t⟩
  · exact .of t
  · exact .inr t
theorem TupR.key {K : PySem.W.Frag} {H : Hp} {a : Addr} {vs : List V} {k : Bool} (t : TupR K H a vs k) (e : k = true) : H a = some (.tup vs) := by
  rcases t with t | ⟨z, _⟩
  · exact t
  · rw [e] at z; cases z

mutual
def RelD (K : PySem.W.Frag) (H : Hp) : D → V → Prop
  | .non, v => v = .non
  | .bl b, v => v = .bl b
  | .int i, v => v = .int i
  | .str s, v => v = .str (mkS s)
  | .ref a, v => v = .ref a
  | .tup ds, v => ∃ a vs, v = .ref a ∧ TupR K H a vs (keyOk (.tup ds)) ∧ RelDs K H ds vs
  | .rol ds, v => ∃ a vs, v = .ref a ∧ FzL K H a vs ∧ RelDs K H ds vs
def RelDs (K : PySem.W.Frag) (H : Hp) : List D → List V → Prop
  | [], vs => vs = []
  | d :: ds, vs => ∃ v r, vs = v :: r ∧ RelD K H d v ∧ RelDs K H ds r
end

/-- fields by their names -/
def RelF (K : PySem.W.Frag) (H : Hp) : List (Str × D) → List (Str × V) → Prop
  | [], vs => vs = []
  | (f, d) :: ds, vs => ∃ v r, vs = (f, v) :: r ∧ RelD K H d v ∧ RelF K H ds r

def keyD : D → Option Key
  | .int i => some (.inl i)
  | .str s => some (.inr (mkS s))
  | _ => none
def keysD : List D → Option (List Key)
  | [] => some []
  | d :: ds => match keyD d, keysD ds with
    | some k, some ks => some (k :: ks)
    | _, _ => none
/-- pairs of a dict whose keys are ints and texts -/
def RelK (K : PySem.W.Frag) (H : Hp) : List (D × D) → List (Key × V) → Prop
  | [], vs => vs = []
  | (k, d) :: ds, vs => ∃ kk v r, vs = (kk, v) :: r ∧ keyD k = some kk ∧ RelD K H d v ∧ RelK K H ds r
/-- .. whose keys are tuples of these -/
def RelKT (K : PySem.W.Frag) (H : Hp) : List (D × D) → List (List Key × V) → Prop
  | [], vs => vs = []
  | (k, d) :: ds, vs => ∃ ps kk v r, vs = (kk, v) :: r ∧ k = .tup ps ∧ keysD ps = some kk ∧ RelD K H d v ∧ RelKT K H ds r

/-- an exception's object, as it is told of a value -/
def ExV (cls : Value) (d : Option Addr) (a : Addr) : HO := .ext fun h => ∃ oe, h.get? a = some oe ∧ Zc cls d oe ∧ ∃ vs, oe.data = .fields vs

/-- what told objects never are -/
structure NoT (H : Hp) (x : Addr) : Prop where
  t : ∀ vs, H x ≠ some (.tup vs)
  f : ∀ o u, H x ≠ some (.frz o u)
  d : ∀ vs, H x ≠ some (.xd vs)

def RelO (K : PySem.W.Frag) (H : Hp) (a : Addr) : PO → Prop
  | .lst ds => ∃ vs, H a = some (.lst vs) ∧ RelDs K H ds vs
  | .dct kvs => (∃ ps, H a = some (.dK ps) ∧ RelK K H kvs ps) ∨ (∃ ps, H a = some (.dT ps) ∧ RelKT K H kvs ps)
  | .ins c fs => ∃ dx vs, H a = some (.ins (He.ga K c) dx vs) ∧ RelF K H fs vs
  | .exc c fs => ∃ d, H a = some (ExV (.ref (He.ga K c)) d a) ∧ ((d = none ∧ fs = []) ∨ ∃ dd vs, d = some dd ∧ H dd = some (.xd vs) ∧ RelF K H fs vs)

def RelH (K : PySem.W.Frag) (H : Hp) (h : PH) : Prop := ∀ a o, h a = some o → RelO K H a o
/-- what is tracked and not told in h stays, and is not told behind -/
def Frm (H : Hp) (h : PH) (H' : Hp) (h' : PH) : Prop := ∀ b o, H b = some o → h b = none → H' b = some o ∧ h' b = none
def RelS (K : PySem.W.Frag) (H : Hp) (ρ : Rho) (σ : L2.St) : Prop := ρ.length = σ.length ∧ ∀ (i : Nat) (d : D), ρ[i]? = some (some d) → ∃ v, σ[i]? = some (some v) ∧ RelD K H d v

theorem Frm.refl {H : Hp} {h : PH} : Frm H h H h := fun _ _ e n => ⟨e, n⟩
theorem Frm.trans {H H1 H2 : Hp} {h h1 h2 : PH} (a : Frm H h H1 h1) (b : Frm H1 h1 H2 h2) : Frm H h H2 h2 := fun c o e n =>
  let ⟨e1, n1⟩ := a c o e n
  b c o e1 n1

section
variable {K : PySem.W.Frag} {H H' : Hp} {h h' : PH} {x a : Addr}
theorem NoT.of {o : HO} (e : H x = some o) (n1 : ∀ vs, o ≠ .tup vs) (n2 : ∀ ob u, o ≠ .frz ob u) (n3 : ∀ vs, o ≠ .xd vs) : NoT H x where
  t vs z := by rw [e] at z; exact n1 vs (Option.some.inj z)
  f ob u z := by rw [e] at z; exact n2 ob u (Option.some.inj z)
  d vs z := by rw [e] at z; exact n3 vs (Option.some.inj z)
theorem NoT.free (e : H x = none) : NoT H x where
  t vs z := by rw [e] at z; cases z
  f ob u z := by rw [e] at z; cases z
  d vs z := by rw [e] at z; cases z
theorem RelO.tracked {o : PO} (q : RelO K H x o) : H x ≠ none := by
  cases o with
  | lst ds => obtain ⟨_, z, _⟩ := q; rw [z]; exact fun c => nomatch c
  | dct kvs => rcases q with ⟨_, z, _⟩ | ⟨_, z, _⟩ <;> rw [z] <;> exact fun c => nomatch c
  | ins c fs => obtain ⟨_, _, z, _⟩ := q; rw [z]; exact fun c => nomatch c
  | exc c fs => obtain ⟨_, z, _⟩ := q; rw [z]; exact fun c => nomatch c
theorem RelO.noT {o : PO} (q : RelO K H x o) : NoT H x := by
  cases o with
  | lst ds => obtain ⟨_, z, _⟩ := q; exact .of z (fun _ c => nomatch c) (fun _ _ c => nomatch c) fun _ c => nomatch c
  | dct kvs => rcases q with ⟨_, z, _⟩ | ⟨_, z, _⟩ <;> exact .of z (fun _ c => nomatch c) (fun _ _ c => nomatch c) fun _ c => nomatch c
  | ins c fs => obtain ⟨_, _, z, _⟩ := q; exact .of z (fun _ c => nomatch c) (fun _ _ c => nomatch c) fun _ c => nomatch c
  | exc c fs => obtain ⟨_, z, _⟩ := q; exact .of z (fun _ c => by unfold ExV at c; nomatch c) (fun _ _ c => by unfold ExV at c; nomatch c) fun _ c => by unfold ExV at c; nomatch c
theorem RelH.noT (r : RelH K H h) {o : PO} (e : h x = some o) : NoT H x := (r x o e).noT
/-- what a step keeps: tuples, what is only read, exceptions' dicts -/
structure Keeps (H H' : Hp) : Prop where
  t : ∀ a vs, H a = some (.tup vs) → H' a = some (.tup vs)
  f : ∀ a o u, H a = some (.frz o u) → H' a = some (.frz o u)
  d : ∀ a vs, H a = some (.xd vs) → H' a = some (.xd vs)
theorem RelH.untold (r : RelH K H h) (n : ¬ NoT H a) : h a = none := by
  cases e : h a with
  | none => rfl
  | some o => exact absurd (RelO.noT (r a o e)) n
theorem Keeps.sqT (k : Keeps H H') {vs : List V} (t : SqT K H a vs) : SqT K H' a vs := by
  rcases t with (t | ⟨o, t⟩) | t
  · exact .inl (.inl (k.t _ _ t))
  · exact .inl (.inr ⟨o, k.f _ _ _ t⟩)
  · exact .inr t
theorem Keeps.fzL (k : Keeps H H') {vs : List V} (t : FzL K H a vs) : FzL K H' a vs := by
  rcases t with ⟨o, t⟩ | t
  · exact .inl ⟨o, k.f _ _ _ t⟩
  · exact .inr t
theorem Keeps.refl : Keeps H H := ⟨fun _ _ e => e, fun _ _ _ e => e, fun _ _ e => e⟩
theorem Keeps.trans {H2 : Hp} (k : Keeps H H') (l : Keeps H' H2) : Keeps H H2 := ⟨fun a vs e => l.t a vs (k.t a vs e), fun a o vs e => l.f a o vs (k.f a o vs e), fun a vs e => l.d a vs (k.d a vs e)⟩
theorem Frm.keeps (r : RelH K H h) (f : Frm H h H' h') : Keeps H H' where
  t a vs q := (f a _ q (r.untold fun n => n.t _ q)).1
  f a o vs q := (f a _ q (r.untold fun n => n.f _ _ q)).1
  d a vs q := (f a _ q (r.untold fun n => n.d _ q)).1
mutual
theorem RelD.keep (k : Keeps H H') : ∀ {d : D} {v : V}, RelD K H d v → RelD K H' d v
  | .non, _, e => by simp only [RelD] at e ⊢; exact e
  | .bl _, _, e => by simp only [RelD] at e ⊢; exact e
  | .int _, _, e => by simp only [RelD] at e ⊢; exact e
  | .str _, _, e => by simp only [RelD] at e ⊢; exact e
  | .ref _, _, e => by simp only [RelD] at e ⊢; exact e
  | .tup ds, _, e => by
    simp only [RelD] at e ⊢
    obtain ⟨a, vs, e1, e2, e3⟩ := e
    exact ⟨a, vs, e1, e2.imp (k.t _ _) id, RelDs.keep k e3⟩
  | .rol ds, _, e => by
    simp only [RelD] at e ⊢
    obtain ⟨a, vs, e1, e2, e3⟩ := e
    exact ⟨a, vs, e1, k.fzL e2, RelDs.keep k e3⟩
theorem RelDs.keep (k : Keeps H H') : ∀ {ds : List D} {vs : List V}, RelDs K H ds vs → RelDs K H' ds vs
  | [], _, e => by simp only [RelDs] at e ⊢; exact e
  | d :: ds, _, e => by
    simp only [RelDs] at e ⊢
    obtain ⟨v, r, e1, e2, e3⟩ := e
    exact ⟨v, r, e1, RelD.keep k e2, RelDs.keep k e3⟩
end
theorem RelF.keep (k : Keeps H H') : ∀ {fs : List (Str × D)} {vs : List (Str × V)}, RelF K H fs vs → RelF K H' fs vs
  | [], _, e => e
  | (_, _) :: _, _, ⟨v, r, e1, e2, e3⟩ => ⟨v, r, e1, e2.keep k, RelF.keep k e3⟩
theorem RelK.keep (k : Keeps H H') : ∀ {fs : List (D × D)} {vs : List (Key × V)}, RelK K H fs vs → RelK K H' fs vs
  | [], _, e => e
  | (_, _) :: _, _, ⟨kk, v, r, e1, e2, e3, e4⟩ => ⟨kk, v, r, e1, e2, e3.keep k, RelK.keep k e4⟩
theorem RelKT.keep (k : Keeps H H') : ∀ {fs : List (D × D)} {vs : List (List Key × V)}, RelKT K H fs vs → RelKT K H' fs vs
  | [], _, e => e
  | (_, _) :: _, _, ⟨ps, kk, v, r, e1, e0, e2, e3, e4⟩ => ⟨ps, kk, v, r, e1, e0, e2, e3.keep k, RelKT.keep k e4⟩

/-- all but x stays -/
def Stay (x : Addr) (H H' : Hp) : Prop := ∀ b o, b ≠ x → H b = some o → H' b = some o
theorem Stay.upd {o : HO} : Stay x H (upd H x o) := fun b u n e => by rw [upd_ne n]; exact e
theorem Stay.keeps (s : Stay x H H') (n : NoT H x) : Keeps H H' where
  t a vs q := s a _ (fun z => n.t vs (z ▸ q)) q
  f a o vs q := s a _ (fun z => n.f o vs (z ▸ q)) q
  d a vs q := s a _ (fun z => n.d vs (z ▸ q)) q
/-- an object told stays, as long as its own place does -/
theorem RelO.keep (k : Keeps H H') (same : ∀ u, H a = some u → H' a = some u) {o : PO} (q : RelO K H a o) : RelO K H' a o := by
  cases o with
  | lst ds => obtain ⟨vs, z, r⟩ := q; exact ⟨vs, same _ z, r.keep k⟩
  | dct kvs =>
    rcases q with ⟨ps, z, r⟩ | ⟨ps, z, r⟩
    · exact .inl ⟨ps, same _ z, r.keep k⟩
    · exact .inr ⟨ps, same _ z, r.keep k⟩
  | ins c fs => obtain ⟨dx, vs, z, r⟩ := q; exact ⟨dx, vs, same _ z, r.keep k⟩
  | exc c fs =>
    obtain ⟨d, z, r⟩ := q
    refine ⟨d, same _ z, ?_⟩
    rcases r with r | ⟨dd, vs, e1, e2, e3⟩
    · exact .inl r
    · exact .inr ⟨dd, vs, e1, k.d _ _ e2, e3.keep k⟩

def updP (h : PH) (a : Addr) (o : PO) : PH := fun b => if b = a then Option.some o else h b
theorem updP_same {o : PO} : updP h a o a = some o := by unfold updP; rw [if_pos rfl]
theorem updP_ne {b : Addr} {o : PO} (e : b ≠ a) : updP h a o b = h b := by unfold updP; rw [if_neg e]

/-- a place is put otherwise (told ahead, or free) -/
theorem RelH.put {u : HO} {o : PO} (r : RelH K H h) (n : NoT H x) (q : RelO K (upd H x u) x o) : RelH K (upd H x u) (updP h x o) := fun b ob e => by
  by_cases hb : b = x
  · subst hb
    rw [updP_same] at e
    cases e
    exact q
  · rw [updP_ne hb] at e
    exact RelO.keep (K := K) (a := b) (Stay.upd.keeps n) (fun w z => by rw [upd_ne hb]; exact z) (r b ob e)
/-- a new object is laid and not told -/
theorem RelH.laid {u : HO} (r : RelH K H h) (n : H x = none) (hn : h x = none) : RelH K (upd H x u) h := fun b ob e => by
  have hb : b ≠ x := fun z => by rw [z, hn] at e; cases e
  exact RelO.keep (K := K) (a := b) (Stay.upd.keeps (.free n)) (fun w z => by rw [upd_ne hb]; exact z) (r b ob e)
theorem Frm.put {u : HO} {o : PO} (t : h x ≠ none ∨ H x = none) : Frm H h (upd H x u) (updP h x o) := fun b w e n => by
  have hb : b ≠ x := by
    rintro rfl
    rcases t with t | t
    · exact t n
    · rw [t] at e; cases e
  rw [upd_ne hb, updP_ne hb]
  exact ⟨e, n⟩
theorem Frm.laid {u : HO} (n : H x = none) : Frm H h (upd H x u) h := fun b w e nn => by
  rw [upd_ne (fun z => by rw [z, n] at e; cases e)]
  exact ⟨e, nn⟩
theorem RelH.free (r : RelH K H h) (n : H x = none) : h x = none := by
  cases e : h x with
  | none => rfl
  | some o => exact absurd n (RelO.tracked (r x o e))
theorem RelS.keep (k : Keeps H H') {ρ : Rho} {σ : L2.St} (r : RelS K H ρ σ) : RelS K H' ρ σ := ⟨r.1, fun i d e => let ⟨v, a, b⟩ := r.2 i d e; ⟨v, a, b.keep k⟩⟩
theorem RelS.set {ρ : Rho} {σ : L2.St} (r : RelS K H ρ σ) {d : D} {v : V} (q : RelD K H d v) (i : Nat) : RelS K H (ρ.set i (some d)) (σ.set i (some v)) := by
  refine ⟨by simp [r.1], fun j e hj => ?_⟩
  by_cases hi : i = j
  · subst hi
    by_cases hl : i < ρ.length
    · rw [List.getElem?_set_self hl] at hj
      cases hj
      exact ⟨v, List.getElem?_set_self (by rw [← r.1]; exact hl), q⟩
    · rw [List.getElem?_eq_none (by simpa using hl)] at hj
      cases hj
  · rw [List.getElem?_set_ne hi] at hj ⊢
    exact r.2 j e hj
theorem RelS.drop {ρ : Rho} {σ : L2.St} (r : RelS K H ρ σ) (i : Nat) : RelS K H (ρ.set i none) (σ.set i none) := by
  refine ⟨by simp [r.1], fun j e hj => ?_⟩
  by_cases hi : i = j
  · subst hi
    by_cases hl : i < ρ.length
    · rw [List.getElem?_set_self hl] at hj
      cases hj
    · rw [List.getElem?_eq_none (by simpa using hl)] at hj
      cases hj
  · rw [List.getElem?_set_ne hi] at hj ⊢
    exact r.2 j e hj
theorem RelDs.len : ∀ {ds : List D} {vs : List V}, RelDs K H ds vs → vs.length = ds.length
  | [], _, e => by simp only [RelDs] at e; subst e; rfl
  | _ :: _, _, e => by
    simp only [RelDs] at e
    obtain ⟨v, r, rfl, _, e3⟩ := e
    simp [RelDs.len e3]
theorem RelDs.get : ∀ {ds : List D} {vs : List V}, RelDs K H ds vs → ∀ (i : Nat) (v : V), vs[i]? = some v → ∃ d, ds[i]? = some d ∧ RelD K H d v
  | [], _, e, i, v, z => by simp only [RelDs] at e; subst e; simp at z
  | d :: ds, _, e, i, v, z => by
    simp only [RelDs] at e
    obtain ⟨w, r, rfl, e2, e3⟩ := e
    cases i with
    | zero => simp at z; subst z; exact ⟨d, rfl, e2⟩
    | succ i => exact RelDs.get e3 i v (by simpa using z)
theorem RelDs.get' : ∀ {ds : List D} {vs : List V}, RelDs K H ds vs → ∀ (i : Nat) (d : D), ds[i]? = some d → ∃ v, vs[i]? = some v ∧ RelD K H d v
  | [], _, e, i, v, z => by simp at z
  | d :: ds, _, e, i, v, z => by
    simp only [RelDs] at e
    obtain ⟨w, r, rfl, e2, e3⟩ := e
    cases i with
    | zero => simp at z; subst z; exact ⟨w, rfl, e2⟩
    | succ i => exact RelDs.get' e3 i v (by simpa using z)
theorem RelDs.append : ∀ {ds es : List D} {vs ws : List V}, RelDs K H ds vs → RelDs K H es ws → RelDs K H (ds ++ es) (vs ++ ws)
  | [], _, _, _, e, f => by simp only [RelDs] at e; subst e; exact f
  | d :: ds, es, _, ws, e, f => by
    simp only [RelDs] at e
    obtain ⟨w, r, rfl, e2, e3⟩ := e
    show RelDs K H (d :: (ds ++ es)) (w :: (r ++ ws))
    simp only [RelDs]
    exact ⟨w, r ++ ws, rfl, e2, e3.append f⟩
theorem RelDs.cons {d : D} {ds : List D} {v : V} {vs : List V} (a : RelD K H d v) (b : RelDs K H ds vs) : RelDs K H (d :: ds) (v :: vs) := by
  simp only [RelDs]
  exact ⟨v, vs, rfl, a, b⟩
theorem RelDs.nil : RelDs K H [] [] := by simp only [RelDs]
theorem RelDs.one {d : D} {v : V} (a : RelD K H d v) : RelDs K H [d] [v] := .cons a .nil
theorem RelDs.take : ∀ {ds : List D} {vs : List V} (n : Nat), RelDs K H ds vs → RelDs K H (ds.take n) (vs.take n)
  | ds, vs, 0, _ => by simp only [List.take_zero, RelDs]
  | [], vs, n + 1, e => by simp only [RelDs] at e; subst e; simp [RelDs]
  | d :: ds, _, n + 1, e => by
    simp only [RelDs] at e
    obtain ⟨w, r, rfl, e2, e3⟩ := e
    exact .cons e2 (RelDs.take n e3)
theorem RelDs.drop : ∀ {ds : List D} {vs : List V} (n : Nat), RelDs K H ds vs → RelDs K H (ds.drop n) (vs.drop n)
  | ds, vs, 0, e => e
  | [], vs, n + 1, e => by simp only [RelDs] at e; subst e; simp [RelDs]
  | d :: ds, _, n + 1, e => by
    simp only [RelDs] at e
    obtain ⟨w, r, rfl, e2, e3⟩ := e
    exact RelDs.drop n e3
theorem RelDs.set : ∀ {ds : List D} {vs : List V} (n : Nat) {d : D} {v : V}, RelDs K H ds vs → RelD K H d v → RelDs K H (ds.set n d) (vs.set n v)
  | [], vs, n, _, _, e, _ => by simp only [RelDs] at e; subst e; simp [RelDs]
  | d :: ds, _, 0, _, _, e, q => by
    simp only [RelDs] at e
    obtain ⟨w, r, rfl, e2, e3⟩ := e
    exact .cons q e3
  | d :: ds, _, n + 1, _, _, e, q => by
    simp only [RelDs] at e
    obtain ⟨w, r, rfl, e2, e3⟩ := e
    exact .cons e2 (RelDs.set n e3 q)
theorem RelDs.reverse : ∀ {ds : List D} {vs : List V}, RelDs K H ds vs → RelDs K H ds.reverse vs.reverse
  | [], vs, e => by simp only [RelDs] at e; subst e; simp [RelDs]
  | d :: ds, _, e => by
    simp only [RelDs] at e
    obtain ⟨w, r, rfl, e2, e3⟩ := e
    simp only [List.reverse_cons]
    exact (RelDs.reverse e3).append (.one e2)
theorem RelDs.split {ds es : List D} {vs : List V} (e : RelDs K H (ds ++ es) vs) : ∃ a b, vs = a ++ b ∧ RelDs K H ds a ∧ RelDs K H es b := by
  refine ⟨vs.take ds.length, vs.drop ds.length, (List.take_append_drop _ _).symm, ?_, ?_⟩
  · have q := e.take ds.length
    rwa [List.take_left] at q
  · have q := e.drop ds.length
    rwa [List.drop_left] at q
end
end Lit
/-! A list that was told may be frozen: from then on it is only read, and told through. -/
namespace Lit
open PySem PySem.Spec PyProof.Rows L2
section
variable {X : Cx} {pins : List (Addr × Obj)} {σ : L2.St} {H : Hp} {s : Shared} {a : Addr} {vs : List V}
theorem _root_.L2.Inv.freeze (I : Inv X pins σ H s) (e : H a = some (.lst vs)) : ∃ o, Inv X pins σ (upd H a (.frz o (.lst vs))) s := by
  obtain ⟨hl, its, n, rv, eo⟩ := I.hok a _ e
  refine ⟨{ cls := .type "list", data := .seq its.toArray n }, I.ok, I.os, I.bare, ⟨I.base.keep, I.base.slot, fun b o e0 n0 hx => ?_, I.base.there, fun b xs e0 => ?_, fun b o u e0 => ?_, fun b ps e0 => ?_⟩, I.loc, I.cell, ?_, fun x c ec => ?_, fun p hp => ?_, fun b o eb => ?_, I.len⟩
  · have z := I.base.free b o e0 n0 hx
    rw [upd_ne (fun q => by rw [q, e] at z; cases z)]
    exact z
  · have z := I.base.tups b xs e0
    rw [upd_ne (fun q => by rw [q, e] at z; cases z)]
    exact z
  · have z := I.base.frzs b o u e0
    rw [upd_ne (fun q => by rw [q, e] at z; cases z)]
    exact z
  · obtain ⟨more, z⟩ := I.base.tbls b ps e0
    refine ⟨more, ?_⟩
    rw [upd_ne (fun q => by rw [q, e] at z; cases z)]
    exact z
  · rw [upd_ne (fun q => by have z := I.free; rw [q, e] at z; cases z)]
    exact I.free
  · have z := I.freeC x c ec
    rw [upd_ne (fun q => by rw [q, e] at z; cases z)]
    exact z
  · obtain ⟨p1, p2, p3⟩ := I.pin p hp
    refine ⟨p1, ?_, p3⟩
    rw [upd_ne (fun q => by rw [q, e] at p2; cases p2)]
    exact p2
  · by_cases hb : b = a
    · subst hb
      rw [upd_same] at eb
      cases eb
      exact ⟨eo, hl, its, n, rv, eo⟩
    · rw [upd_ne hb] at eb
      exact (I.hok b o eb).stay (fun _ _ _ q => q) (fun x q => by rw [upd_ne (fun z => by rw [z, e] at q; cases q)]; exact q) (fun x xs q => by rw [upd_ne (fun z => by rw [z, e] at q; cases q)]; exact q)
end
/-- .. or the list is frozen first -/
def frQ (Q : VK) : VK := fun v H => Q v H ∨ ∃ a vs, v = .ref a ∧ H a = some (.lst vs) ∧ ∀ o, Q v (upd H a (.frz o (.lst vs)))
section
variable {X : Cx} {pins : List (Addr × Obj)} {σ : L2.St} {Q : VK}
theorem ep_fr {u : Value} {s : Shared} (q : EP X pins σ (frQ Q) u s) : EP X pins σ Q u s := by
  obtain ⟨v, H, I, r, q | ⟨a, vs, rfl, e, q⟩⟩ := q
  · exact ⟨v, H, I, r, q⟩
  · obtain ⟨o, I'⟩ := I.freeze e
    exact ⟨_, _, I', r, q o⟩
theorem _root_.L2.PE.fr {e : Expr} {t : TE} (p : PE X e t) : PE X e (fun σ H Q => t σ H (frQ Q)) :=
  ⟨fun pins s σ H Q I q => wpAny_mono (p.run pins s σ H (frQ Q) I q) (fun _ _ z => ep_fr z) fun _ _ z => z⟩
theorem _root_.L2.OpR.fr {f : Value → Value → Sem Value} {r : R2} (p : OpR X f r) : OpR X f (fun x y H Q => r x y H (frQ Q)) :=
  fun pins s σ H x y v u Q I rx ry q => wpAny_mono (p pins s σ H x y v u (frQ Q) I rx ry q) (fun _ _ z => ep_fr z) fun _ _ z => z
theorem _root_.L2.CallR.fr {f : Value} {r : List V → Hp → VK → Prop} (p : CallR X f r) : CallR X f (fun x H Q => r x H (frQ Q)) :=
  fun pins s σ H x v Q I rx q => wpAny_mono (p pins s σ H x v (frQ Q) I rx q) (fun _ _ z => ep_fr z) fun _ _ z => z
theorem _root_.L2.MtR.fr {id : String} {r : V → List V → Hp → VK → Prop} (p : MtR X id r) : MtR X id (fun x y H Q => r x y H (frQ Q)) :=
  fun pins s σ H x xs v us Q I rx ry q => wpAny_mono (p pins s σ H x xs v us (frQ Q) I rx ry q) (fun _ _ z => ep_fr z) fun _ _ z => z
theorem _root_.L2.SlR.fr {r : V → Option Int → Option Int → Hp → VK → Prop} (p : L2.SlR X r) : L2.SlR X (fun x lo hi H Q => r x lo hi H (frQ Q)) := by
  intro pins s σ H x v vl vu lo hi sl Q I rx hs pl pu q
  obtain ⟨T, id, h1, h2, h3⟩ := p pins s σ H x v vl vu lo hi sl (frQ Q) I rx hs pl pu q
  exact ⟨T, id, h1, h2, wpAny_mono h3 (fun _ _ z => ep_fr z) fun _ _ z => z⟩
end
def frN (P : L2.St → Hp → Prop) : L2.St → Hp → Prop := fun σ H => P σ H ∨ ∃ a vs, H a = some (.lst vs) ∧ ∀ o, P σ (upd H a (.frz o (.lst vs)))
theorem _root_.L2.PS.fr {X : Cx} {e : Stmt} {t : TS} (p : PS X e t) : PS X e (fun D σ H => t { D with nx := frN D.nx } σ H) := by
  refine ⟨fun pins s σ H D I q => wpAny_mono (p.run pins s σ H _ I q) (fun f s' z => ?_) fun _ _ z => z⟩
  cases f with
  | next =>
    obtain ⟨σ', H', I', z | ⟨a, vs, e, z⟩⟩ := z
    · exact ⟨σ', H', I', z⟩
    · obtain ⟨o, I2⟩ := I'.freeze e
      exact ⟨σ', _, I2, z o⟩
  | brk => exact z
  | cont => exact z
  | ret u => exact z
theorem frQ_gName {i : Nat} {σ : L2.St} {P : L2.St → Hp → Prop} {v : V} {H : Hp} (q : frQ (fun x H1 => gName i x σ H1 P) v H) : gName i v σ H (frN P) := by
  rcases q with q | ⟨a, vs, rfl, e, q⟩
  · exact .inl q
  · exact .inr ⟨a, vs, e, q⟩
/-- a list that is told, or frozen -/
def LiF (K : PySem.W.Frag) (H : Hp) (a : Addr) (xs : List V) : Prop := H a = some (.lst xs) ∨ FzL K H a xs
section
variable {X : Cx} {pins : List (Addr × Obj)} {σ : L2.St} {H : Hp} {s : Shared} {a : Addr} {xs : List V}
theorem _root_.L2.Inv.lis (I : Inv X pins σ H s) (q : LiF X.K H a xs) : xs.length ≤ sizeLine ∧ ∃ (ws : List Value) (n : Nat), Vals xs ws ∧ s.heap.get? a = some { cls := .type "list", data := .seq ws.toArray n } := by
  rcases q with q | ⟨o, q⟩ | ⟨ws, n, e, z, r⟩
  · obtain ⟨z, ws, n, r, _, e⟩ := I.lstM q
    exact ⟨z, ws, n, r, e⟩
  · obtain ⟨e, z, ws, n, r, e2⟩ := I.hok a _ q
    exact ⟨z, ws, n, r, e2⟩
  · exact ⟨by rw [r.length]; exact z, ws, n, r, I.kIn a _ e⟩
theorem op_catF : OpR X (binaryOp .Add) (fun x y H Q => ∃ a b xs zs, x = .ref a ∧ y = .ref b ∧ LiF X.K H a xs ∧ LiF X.K H b zs ∧ xs.length + zs.length ≤ sizeLine ∧ ∀ p, H p = none → Q (.ref p) (upd H p (.lst (xs ++ zs)))) := by
  rintro pins s σ H x y v u Q I rx ry ⟨a, b, xs, zs, rfl, rfl, ha, hb, hl, q⟩
  cases rx; cases ry
  obtain ⟨_, ws, n, r, e⟩ := I.lis ha
  obtain ⟨_, ws2, n2, r2, e2⟩ := I.lis hb
  have l1 := r.length
  have l2 := r2.length
  refine PySem.P.add_list e e2 ?_ (by rw [List.size_toArray, List.size_toArray]; omega)
  rw [show ws.toArray ++ ws2.toArray = (ws ++ ws2).toArray by simp]
  exact ⟨.ref s.heap.objs.size, _, I.lnew (t' := s.toks) (r.append r2) (by rw [List.length_append]; exact hl), rfl, q _ I.fresh⟩
theorem mt_extendF : MtR X "list.extend" (fun x vs H Q => ∃ a b xs zs, x = .ref a ∧ vs = [.ref b] ∧ H a = some (.lst xs) ∧ LiF X.K H b zs ∧ xs.length + zs.length ≤ sizeLine ∧ Q .non (upd H a (.lst (xs ++ zs)))) := by
  rintro pins s σ H x vs v us Q I rx rv ⟨a, b, xs, zs, rfl, rfl, ha, hb, hl, q⟩
  cases rx
  obtain ⟨w, rfl, rw⟩ := rv.one
  cases rw
  obtain ⟨_, ws, n, r, l1, e⟩ := I.lstM ha
  obtain ⟨_, ws2, n2, r2, e2⟩ := I.lis hb
  have l2 := r2.length
  have both : ws.toArray.size + ws2.toArray.size ≤ sizeLine := by rw [List.size_toArray, List.size_toArray, ← l1, ← l2]; exact hl
  have notLong : ¬ (!ws.toArray.isEmpty && Builtin.List.listTooLong (ws.toArray.size + ws2.toArray.size)) = true := fun z => by
    rw [notLongL both, Bool.and_false] at z
    cases z
  refine call_meets F.slot_list_extend ⟨_, e, rfl⟩ F.entry_list_extend (F.args_list_extend_2 _ _) (AutoSeq1.list_extend_list_list_0 a ws.toArray n b ws2.toArray n2 notLong (by omega) (by omega)) ⟨e, e2, ?_⟩
  · exact ⟨.non, _, I.lset (its' := ws ++ ws2) ha e (by simp) (r.append r2) (by rw [List.length_append]; exact hl), rfl, q⟩
end
theorem tuple_mulW1 (l : Addr) (items : Array Value) (n : Nat) (dd : Option Addr) (sl : Array (Option Value)) (u : Tok) :
    Meets (Builtin.«tuple.__mul__» ⟨[.ref l, .int 1 u], []⟩) (fun _ R s => s.heap.get? l = some { cls := .type "tuple", dict := dd, data := .seq items n, slots := sl } ∧
      R (.ok (.ret (Value.ref l))) s) :=
  .of_wp fun prog w A R s h => by
    obtain ⟨hp, g, d, tk, os⟩ := s
    obtain ⟨hl, h⟩ := h
    have f1 := AutoSeq1.idx_int
    wp_walk using wpAny_loadPart' hl
    repeat (first
      | (refine wpAny_ite_false (decide_eq_false (by decide)) ?_; wp_walk using wpAny_loadPart' hl)
      | (refine wpAny_ite_true (decide_eq_true (by simp)) ?_; wp_walk using wpAny_loadPart' hl))
    all_goals first | exact ⟨_, rfl, h⟩ | skip
def rRepT1 (K : PySem.W.Frag) : R2 := fun x y H Q => ∃ l xs, x = .ref l ∧ y = .int 1 ∧ SqT K H l xs ∧ Q (.ref l) H
theorem op_repT1 {X : Cx} : OpR X (binaryOp .Mult) (rRepT1 X.K) := by
  intro pins s σ H x y v u Q I rx ry h
  obtain ⟨l, xs, rfl, rfl, hT, q⟩ := h
  cases rx
  obtain ⟨t, rfl⟩ := ry
  obtain ⟨its, r, ⟨⟨cls, dd, data, sl⟩, ho, hc, n, hd⟩, hs⟩ := I.tuple hT
  simp only at hc hd
  subst hc hd
  refine wpAny_binaryOp_repeat_ref (T := "tuple") (U := "int") (by decide) ⟨_, ho, rfl⟩ (fun s' => typeIs_int s' 1 t) noFill_tuple_mul F.fills_int_mul F.slot_int_rmul repeat_tuple F.slot_int_index.lookup
    (call_meets F.slot_int_rmul (typeIs_int s 1 t) F.entry_int_rmul (F.args_int_rmul_2 _ _) (int_rmul_tuple 1 t l its.toArray n dd sl)
      ⟨ho, rfl, ⟨_, ho, rfl⟩, call_meets F.slot_tuple_mul ⟨_, ho, rfl⟩ F.entry_tuple_mul (F.args_tuple_mul_2 _ _) (tuple_mulW1 l its.toArray n dd sl t) ⟨ho, ?_⟩⟩)
  exact ⟨.ref l, H, I, rfl, q⟩
/-- a tracked object is told otherwise -/
theorem _root_.L2.Inv.reobj {X : Cx} {pins : List (Addr × Obj)} {σ : L2.St} {H : Hp} {s : Shared} {a : Addr} {o u : HO} (I : Inv X pins σ H s) (e : H a = some o) (nt : ∀ xs, o ≠ .tup xs) (nf : ∀ ob v, o ≠ .frz ob v) (nb : ∀ ps, o ≠ .tbl ps) (nw : ∀ x, o ≠ .own x)
    (hu : ObjOk X.prog X.w (upd H a u) s.heap a u) : Inv X pins σ (upd H a u) s := by
  refine ⟨I.ok, I.os, I.bare, ⟨I.base.keep, I.base.slot, fun b ob e0 n0 hx => ?_, I.base.there, fun b xs e0 => ?_, fun b ob v e0 => ?_, fun b ps e0 => ?_⟩, I.loc, I.cell, ?_, fun x c ec => ?_, fun p hp => ?_, fun b ob eb => ?_, I.len⟩
  · have z := I.base.free b ob e0 n0 hx
    rw [upd_ne (fun q => by rw [q, e] at z; cases z)]
    exact z
  · have z := I.base.tups b xs e0
    rw [upd_ne (fun q => by rw [q, e] at z; exact nt _ (Option.some.inj z))]
    exact z
  · have z := I.base.frzs b ob v e0
    rw [upd_ne (fun q => by rw [q, e] at z; exact nf _ _ (Option.some.inj z))]
    exact z
  · obtain ⟨more, z⟩ := I.base.tbls b ps e0
    refine ⟨more, ?_⟩
    rw [upd_ne (fun q => by rw [q, e] at z; exact nb _ (Option.some.inj z))]
    exact z
  · rw [upd_ne (fun q => by have z := I.free; rw [q, e] at z; cases z)]
    exact I.free
  · have z := I.freeC x c ec
    rw [upd_ne (fun q => by rw [q, e] at z; cases z)]
    exact z
  · obtain ⟨p1, p2, p3⟩ := I.pin p hp
    refine ⟨p1, ?_, p3⟩
    rw [upd_ne (fun q => by rw [q, e] at p2; cases p2)]
    exact p2
  · by_cases hb : b = a
    · subst hb
      rw [upd_same] at eb
      cases eb
      exact hu
    · rw [upd_ne hb] at eb
      exact (I.hok b ob eb).stay (fun _ _ _ q => q) (fun x q => by rw [upd_ne (fun z => by rw [z, e] at q; exact nw _ (Option.some.inj q))]; exact q) (fun x xs q => by rw [upd_ne (fun z => by rw [z, e] at q; exact nt _ (Option.some.inj q))]; exact q)
theorem _root_.L2.Inv.dKT {X : Cx} {pins : List (Addr × Obj)} {σ : L2.St} {H : Hp} {s : Shared} {a : Addr} (I : Inv X pins σ H s) (e : H a = some (.dK [])) : Inv X pins σ (upd H a (.dT [])) s := by
  refine I.reobj e (fun _ c => nomatch c) (fun _ _ c => nomatch c) (fun _ c => nomatch c) (fun _ c => nomatch c) ?_
  obtain ⟨h1, h2, vs, kv, o, es, ep, ho, he, hd, hk, hl, hn⟩ := I.hok a _ e
  cases kv
  generalize e3 : es.toList = l at hl
  cases hl
  exact ⟨h1, h2, [], .nil, o, es, ep, ho, he, hd, e3, by simp⟩
theorem _root_.L2.Inv.dTK {X : Cx} {pins : List (Addr × Obj)} {σ : L2.St} {H : Hp} {s : Shared} {a : Addr} (I : Inv X pins σ H s) (e : H a = some (.dT [])) : Inv X pins σ (upd H a (.dK [])) s := by
  refine I.reobj e (fun _ c => nomatch c) (fun _ _ c => nomatch c) (fun _ c => nomatch c) (fun _ c => nomatch c) ?_
  obtain ⟨h1, h2, xs, px, o, es, ep, ho, he, hd, hl, hn⟩ := I.hok a _ e
  cases px
  have e3 : es.toList = [] := hl
  have e4 : es = #[] := by
    cases es
    simp at e3
    rw [e3]
  subst e4
  exact ⟨h1, h2, [], .nil, o, #[], ep, ho, he, hd, (fun e he => by simp at he), .nil, by simp⟩
end Lit
/-! A small syntax without positions, and what it asks of told values. -/
namespace Lit
open PySem PySem.Spec PyProof.Rows L2

/-! ### steps of the told heap -/
def Ext (h h' : PH) : Prop := ∀ b u, h b = some u → h' b = some u
def ExtBut (a : Addr) (h h' : PH) : Prop := ∀ b u, b ≠ a → h b = some u → h' b = some u
abbrev XQ := Exc → PH → Prop
def alloc (o : PO) (h : PH) (Q : D → PH → Prop) : Prop := ∀ (p : Addr) (h' : PH), h p = none → h' p = some o → Ext h h' → Q (.ref p) h'
/-- a new list: told through and only read from then on, or told by its place -/
def newL (fz : Bool) (ds : List D) (h : PH) (Q : D → PH → Prop) : Prop := match fz with
  | true => Q (.rol ds) h
  | false => alloc (.lst ds) h Q
@[simp] theorem newL_t {ds : List D} {h : PH} {Q : D → PH → Prop} : newL true ds h Q = Q (.rol ds) h := rfl
@[simp] theorem newL_f {ds : List D} {h : PH} {Q : D → PH → Prop} : newL false ds h Q = alloc (.lst ds) h Q := rfl
/-- a told list is frozen -/
def frzK (Q : D → PH → Prop) : D → PH → Prop := fun d h => match d with
  | .ref a => match h a with
    | some (.lst ds) => ∃ h2, Ext h2 h ∧ h2 a = none ∧ Q (.rol ds) h2
    | _ => False
  | _ => False
/-- what was told anew is forgotten as an exception leaves -/
def fgtX (xq : XQ) : XQ := fun x h1 => ∃ h2, Ext h2 h1 ∧ xq x h2
def put (a : Addr) (o : PO) (h : PH) (Q : PH → Prop) : Prop := ∀ h' : PH, h' a = some o → ExtBut a h h' → Q h'

/-! ### reading lists -/
def rdL (h : PH) : D → Option (List D)
  | .ref a => match h a with
    | some (.lst ds) => some ds
    | _ => none
  | .rol ds => some ds
  | _ => none
/-- a list that may change -/
def rdM (h : PH) : D → Option (List D)
  | .ref a => match h a with
    | some (.lst ds) => some ds
    | _ => none
  | _ => none
def rdT : D → Option (List D)
  | .tup ds => some ds
  | _ => none
/-- a list or a tuple -/
def rdQ (h : PH) : D → Option (List D)
  | .tup ds => some ds
  | d => rdL h d
def deref : Nat → PH → D → Option D
  | 0, _, _ => none
  | n + 1, h, .ref a => match h a with
    | some (.lst ds) => (ds.mapM (deref n h)).map .rol
    | _ => none
  | n + 1, h, .tup ds => (ds.mapM (deref n h)).map .tup
  | n + 1, h, .rol ds => (ds.mapM (deref n h)).map .rol
  | _ + 1, _, d => some d
mutual
def toPD : D → PyData
  | .non => .none
  | .bl b => .bool b
  | .int i => .int i
  | .str s => .str (mkS s)
  | .ref _ => .none
  | .tup ds => .tuple (toPDs ds)
  | .rol ds => .list (toPDs ds)
def toPDs : List D → List PyData
  | [] => []
  | d :: ds => toPD d :: toPDs ds
end
def sane (d : D) : Bool := SeqAt.shaped (toPD d)
def eqv (a b : D) : Bool := PyData.eqv (toPD a) (toPD b)
def deepEq (h : PH) (x y : D) (Q : Bool → Prop) : Prop := match deref 70 h x, deref 70 h y with
  | some a, some b => sane a = true ∧ sane b = true ∧ Q (eqv a b)
  | _, _ => False
def eqQ (h : PH) (x y : D) (Q : Bool → Prop) : Prop := match x, y with
  | .str a, .str b => Q (decide (a = b))
  | .int i, .int j => Q (decide (i = j))
  | x, y => deepEq h x y Q
def flatD : D → Bool
  | .non => true
  | .bl _ => true
  | .int _ => true
  | .str _ => true
  | _ => false
/-- == of flat things -/
def eqF : D → D → Bool
  | .non, .non => true
  | .bl a, .bl b => a == b
  | .int i, .int j => decide (i = j)
  | .str a, .str b => decide (a = b)
  | .bl a, .int j => decide ((if a then 1 else 0) = j)
  | .int i, .bl b => decide (i = (if b then 1 else 0))
  | _, _ => false
def inQ (h : PH) (x y : D) (Q : Bool → Prop) : Prop := match x, y with
  | .str [c], .str b => Q (decide (c ∈ b))
  | x, y => match rdQ h y with
    | some ds => flatD x = true ∧ ds.all flatD = true ∧ Q (ds.any fun d => eqF d x)
    | none => False

/-! ### operators -/
inductive BOp where | add | sub | mul | fdiv | mod | pow
  deriving DecidableEq
inductive COp where | eq | ne | lt | le | gt | ge | isin | notin | is | isnot
  deriving DecidableEq
def binD (fz : Bool) (o : BOp) (x y : D) (h : PH) (Q : D → PH → Prop) : Prop := match o, x, y with
  | .add, .int i, .int j => Q (.int (i + j)) h
  | .add, .str a, .str b => a.length + b.length ≤ sizeLine ∧ Q (.str (a ++ b)) h
  | .add, .tup a, .tup b => a.length + b.length ≤ sizeLine ∧ Q (.tup (a ++ b)) h
  | .add, x, y => match rdL h x, rdL h y with
    | some a, some b => a.length + b.length ≤ sizeLine ∧ newL fz (a ++ b) h Q
    | _, _ => False
  | .sub, .int i, .int j => Q (.int (i - j)) h
  | .mul, .int i, .int j => CMul i j ∧ Q (.int (i * j)) h
  | .mul, .str a, .int k => 1 ≤ k ∧ k ≤ 10000 ∧ 0 < a.length ∧ a.length ≤ 100 ∧ Q (.str (List.replicate k.toNat a).flatten) h
  | .mul, .tup a, .int k => if k = 1 then Q (.tup a) h else a ≠ [] ∧ 2 ≤ k ∧ k ≤ 1000 ∧ a.length ≤ 1000 ∧ Q (.tup (List.replicate k.toNat a).flatten) h
  | .mul, x, .int k => match rdM h x with
    | some a => 0 ≤ k ∧ k < 2 ^ 62 ∧ a.length * k.toNat ≤ sizeLine ∧ newL fz (List.replicate k.toNat a).flatten h Q
    | _ => False
  | .fdiv, .int i, .int j => CDiv i j ∧ Q (.int (i / j)) h
  | .mod, .int i, .int j => 0 < j ∧ Q (.int (i % j)) h
  | .pow, .int i, .int j => CPow i j ∧ Q (.int (i ^ j.toNat)) h
  | _, _, _ => False
def noneD : D → Bool
  | .non => true
  | _ => false
def isQ (x y : D) (Q : Bool → Prop) : Prop := match y with
  | .non => Q (noneD x)
  | .bl b => match x with
    | .bl a => Q (a == b)
    | _ => False
  | _ => False
def intsOf : List D → Option (List Int)
  | [] => some []
  | .int i :: r => (intsOf r).map (i :: ·)
  | _ => none
def cmpD (o : COp) (x y : D) (h : PH) (Q : Bool → Prop) : Prop := match o with
  | .eq => eqQ h x y Q
  | .ne => eqQ h x y fun b => Q (!b)
  | .lt => match x, y with
    | .int i, .int j => Q (decide (i < j))
    | _, _ => False
  | .le => match x, y with
    | .int i, .int j => Q (decide (i ≤ j))
    | _, _ => False
  | .gt => match x, y with
    | .int i, .int j => Q (decide (j < i))
    | _, _ => False
  | .ge => match x, y with
    | .int i, .int j => Q (decide (j ≤ i))
    | _, _ => False
  | .isin => inQ h x y Q
  | .notin => inQ h x y fun b => Q (!b)
  | .is => isQ x y Q
  | .isnot => isQ x y fun b => Q (!b)
def truQ (h : PH) (x : D) (Q : Bool → Prop) : Prop := match x with
  | .non => Q false
  | .bl b => Q b
  | .int i => Q (decide (i ≠ 0))
  | .str s => s.length ≤ sizeLine ∧ Q (!s.isEmpty)
  | x => match rdQ h x with
    | some ds => Q (!ds.isEmpty)
    | none => False

/-! ### subscripts -/
/-- == of keys: flat things, tuples of these -/
def eqFs : List D → List D → Bool
  | [], [] => true
  | a :: as, b :: bs => eqF a b && eqFs as bs
  | _, _ => false
def eqK : D → D → Bool
  | .tup as, .tup bs => eqFs as bs
  | a, b => eqF a b
def getD? (k : D) : List (D × D) → Option D
  | [] => none
  | (a, v) :: r => if eqK a k = true then some v else getD? k r
/-- the keys of one sort as this one -/
def likeKeys (k : D) (kvs : List (D × D)) : Bool := match k with
  | .tup _ => kvs.all fun p => match p.1 with
    | .tup _ => true
    | _ => false
  | _ => kvs.all fun p => match p.1 with
    | .tup _ => false
    | _ => true
def ixD (x y : D) (h : PH) (Q : D → PH → Prop) : Prop := match x, y with
  | .str s, .int i => s.length ≤ sizeLine ∧ match atI s i with
    | some c => Q (.str [c]) h
    | none => False
  | .tup ds, .int i => match atI ds i with
    | some d => Q d h
    | none => False
  | .rol ds, .int i => match atI ds i with
    | some d => Q d h
    | none => False
  | .ref a, k => match h a with
    | some (.lst ds) => match k with
      | .int i => match atI ds i with
        | some d => Q d h
        | none => False
      | _ => False
    | some (.dct kvs) => keyOk k = true ∧ match getD? k kvs with
      | some v => Q v h
      | none => False
    | _ => False
  | _, _ => False
def cutL {α : Type} (xs : List α) (lo hi : Option Int) : List α := (xs.drop (HT.sIx xs.length 0 lo)).take (HT.sIx xs.length xs.length hi - HT.sIx xs.length 0 lo)
def slD (fz : Bool) (x : D) (lo hi : Option Int) (h : PH) (Q : D → PH → Prop) : Prop := match x with
  | .str s => s.length ≤ sizeLine ∧ Q (.str (cutL s lo hi)) h
  | .tup ds => Q (.tup (cutL ds lo hi)) h
  | x => match rdL h x with
    | some ds => newL fz (cutL ds lo hi) h Q
    | none => False

/-! ### built-ins -/
inductive B1 where | len | sum | all | any | maxL | minL | int | str | repr | list (fz : Bool) | tuple | abs
  deriving DecidableEq
inductive B2 where | max | min
  deriving DecidableEq
inductive Ty where | int | bool | str | tuple | list | own (c : Str)
  deriving DecidableEq
def blsOf : List D → Option (List Bool)
  | [] => some []
  | .bl i :: r => (blsOf r).map (i :: ·)
  | _ => none
def strsOf : List D → Option (List (List Nat))
  | [] => some []
  | .str i :: r => (strsOf r).map (i :: ·)
  | _ => none
def maxI : Int → List Int → Int
  | m, [] => m
  | m, i :: r => maxI (if m < i then i else m) r
def minI : Int → List Int → Int
  | m, [] => m
  | m, i :: r => minI (if i < m then i else m) r
def showN (i : Int) : List Nat := (toString i : Str).cps.toList
def b1D (f : B1) (x : D) (h : PH) (Q : D → PH → Prop) : Prop := match f with
  | .len => match x with
    | .str s => s.length ≤ sizeLine ∧ Q (.int s.length) h
    | x => match rdQ h x with
      | some ds => Q (.int ds.length) h
      | none => match x with
        | .ref a => match h a with
          | some (.dct kvs) => Q (.int kvs.length) h
          | _ => False
        | _ => False
  | .sum => match rdL h x with
    | some ds => match intsOf ds with
      | some ns => Q (.int ns.sum) h
      | none => False
    | none => False
  | .all => match rdL h x with
    | some ds => match blsOf ds with
      | some bs => Q (.bl (bs.all id)) h
      | none => False
    | none => False
  | .any => match rdL h x with
    | some ds => match blsOf ds with
      | some bs => Q (.bl (bs.any id)) h
      | none => False
    | none => False
  | .maxL => match rdQ h x with
    | some ds => match intsOf ds with
      | some (n :: ns) => Q (.int (maxI n ns)) h
      | _ => False
    | none => False
  | .minL => match rdQ h x with
    | some ds => match intsOf ds with
      | some (n :: ns) => Q (.int (minI n ns)) h
      | _ => False
    | none => False
  | .int => match x with
    | .int i => Q (.int i) h
    | .bl b => Q (.int (if b then 1 else 0)) h
    | .str s => match PySem.intText? (mkS s) with
      | some n => s.length ≤ 640 ∧ Q (.int n) h
      | none => False
    | _ => False
  | .str => match x with
    | .int i => i.natAbs.log2 < 1920 ∧ Q (.str (showN i)) h
    | _ => False
  | .repr => match deref 70 h x with
    | some d => (toPD d).showable = true ∧ (toPD d).depth ≤ 60 ∧ (toPD d).hasDict = false ∧ (toPD d).shown.length ≤ sizeLine ∧ Q (.str (toPD d).shown.cps.toList) h
    | none => False
  | .list fz => match rdQ h x with
    | some ds => newL fz ds h Q
    | none => False
  | .abs => match x with
    | .int i => Q (.int (if i < 0 then -i else i)) h
    | _ => False
  | .tuple => match rdQ h x with
    | some ds => Q (.tup ds) h
    | none => False
def b2D (f : B2) (x y : D) (h : PH) (Q : D → PH → Prop) : Prop := match f, x, y with
  | .max, .int i, .int j => Q (.int (if j > i then j else i)) h
  | .min, .int i, .int j => Q (.int (if j < i then j else i)) h
  | _, _, _ => False
/-- a class under another one, of the program's refusals -/
def subE (c b : Str) : Bool := decide (c = b) || decide (b = "MarkError") || decide (b = "ValueError")
def isiD (t : Ty) (x : D) (h : PH) (Q : Bool → Prop) : Prop := match t, x with
  | .int, .int _ => Q true
  | .int, .bl _ => Q true
  | .bool, .bl _ => Q true
  | .str, .str _ => Q true
  | .tuple, .tup _ => Q true
  | .list, .rol _ => Q true
  | t, .ref a => match h a with
    | some (.lst _) => Q (decide (t = .list))
    | some (.dct _) => Q false
    | some (.exc c _) => match t with
      | .own b => Q (subE c b)
      | _ => Q false
    | _ => False
  | .own _, _ => False
  | _, _ => Q false

def isData : D → PH → Bool
  | .ref a, h => match h a with
    | some (.lst _) => true
    | some (.dct _) => true
    | _ => false
  | _, _ => true
/-! ### methods of built-in types -/
inductive Mth where | append | extend | pop | popAt | insert | split (fz : Bool) | join | upper | sindex | lindex | scount | dget
  deriving DecidableEq
def mthD (m : Mth) (x : D) (as : List D) (h : PH) (Q : D → PH → Prop) : Prop := match m, as with
  | .append, [y] => match x with
    | .ref a => match h a with
      | some (.lst ds) => ds.length < sizeLine ∧ put a (.lst (ds ++ [y])) h fun h' => Q .non h'
      | _ => False
    | _ => False
  | .extend, [y] => match x with
    | .ref a => match h a, rdL h y with
      | some (.lst ds), some es => ds.length + es.length ≤ sizeLine ∧ put a (.lst (ds ++ es)) h fun h' => Q .non h'
      | _, _ => False
    | _ => False
  | .pop, [] => match x with
    | .ref a => match h a with
      | some (.lst ds) => match ds[ds.length - 1]? with
        | some y => put a (.lst ds.dropLast) h fun h' => Q y h'
        | none => False
      | _ => False
    | _ => False
  | .split fz, [.str b] => match x with
    | .str a => b ≠ [] ∧ a.length + 2 ≤ sizeLine ∧ newL fz ((Txt.split (mkS a) (mkS b)).map fun z => .str z.cps.toList) h Q
    | _ => False
  | .join, [y] => match x, rdQ h y with
    | .str a, some ds => match strsOf ds with
      | some ys => (ys.map (·.length)).sum + ys.length * a.length ≤ 16777216 ∧ Q (.str (Txt.join (mkS a) (ys.map mkS)).cps.toList) h
      | none => False
    | _, _ => False
  | .insert, [.int i, y] => match x with
    | .ref a => match h a with
      | some (.lst ds) => ds.length < sizeLine ∧ 0 ≤ i ∧ i < 2 ^ 63 ∧ put a (.lst (ds.take i.toNat ++ [y] ++ ds.drop i.toNat)) h fun h' => Q .non h'
      | _ => False
    | _ => False
  | .popAt, [.int i] => match x with
    | .ref a => match h a with
      | some (.lst ds) => -(2 ^ 63) ≤ i ∧ i < 2 ^ 63 ∧ match ixN ds.length i with
        | some k => match ds[k]? with
          | some y => put a (.lst (ds.eraseIdx k)) h fun h' => Q y h'
          | none => False
        | none => False
      | _ => False
    | _ => False
  | .sindex, [.str b] => match x with
    | .str a => match Txt.index0 (mkS a) (mkS b) with
      | some k => Q (.int (k : Nat)) h
      | none => False
    | _ => False
  | .scount, [.str b] => match x with
    | .str a => Q (.int (Txt.count (mkS a) (mkS b))) h
    | _ => False
  | .dget, [k, z] => match x with
    | .ref a => match h a with
      | some (.dct kvs) => kvs ≠ [] ∧ keyOk k = true ∧ likeKeys k kvs = true ∧ Q ((getD? k kvs).getD z) h
      | _ => False
    | _ => False
  | .upper, [] => match x with
    | .str a => a.length ≤ 5592405 ∧ Q (.str (Txt.upper (mkS a)).cps.toList) h
    | _ => False
  | _, _ => False
def isStr : D → Bool
  | .str _ => true
  | _ => false
/-- the receiver's sort -/
def tyB (m : Mth) (x : D) (h : PH) : Bool := match m with
  | .append | .extend | .pop | .popAt | .insert | .lindex => (rdM h x).isSome
  | .split _ | .join | .upper | .sindex | .scount => isStr x
  | .dget => match x with
    | .ref a => match h a with
      | some (.dct _) => true
      | _ => false
    | _ => false
/-- o[i] = v -/
def setKV (k v : D) (kvs : List (D × D)) : List (D × D) :=
  if kvs.any (fun p => eqK p.1 k) = true then kvs.map (fun p => if eqK p.1 k = true then (p.1, v) else p) else kvs ++ [(k, v)]
def setD (o i v : D) (h : PH) (Q : PH → Prop) : Prop := match o with
  | .ref a => match h a with
    | some (.lst ds) => match i with
      | .int k => match ixN ds.length k with
        | some j => put a (.lst (ds.set j v)) h Q
        | none => False
      | _ => False
    | some (.dct kvs) => kvs.length < sizeLine ∧ keyOk i = true ∧ likeKeys i kvs = true ∧ put a (.dct (setKV i v kvs)) h Q
    | _ => False
  | _ => False
/-- the pairs of a display: keys that are ints and texts -/
def kvPairs : List D → Option (List (D × D))
  | [] => some []
  | .int i :: v :: r => (kvPairs r).map ((.int i, v) :: ·)
  | .str s :: v :: r => (kvPairs r).map ((.str s, v) :: ·)
  | _ => none
def mergeD (kvs more : List (D × D)) : List (D × D) := more.foldl (fun acc p => setKV p.1 p.2 acc) kvs
/-- a field is put -/
def putFs (f : Str) (y : D) : List (Str × D) → List (Str × D)
  | [] => [(f, y)]
  | (g, d) :: r => if g = f then (f, y) :: r else (g, d) :: putFs f y r
/-! ### targets -/
inductive Tg where
  | nm (i : Nat) | tup (l : Tg) | nil | cons (t l : Tg)
mutual
def asg : Tg → D → Rho → Option Rho
  | .nm i, d, ρ => some (ρ.set i (some d))
  | .tup l, .tup ds, ρ => asgs l ds ρ
  | _, _, _ => none
def asgs : Tg → List D → Rho → Option Rho
  | .nil, [], ρ => some ρ
  | .cons t l, d :: ds, ρ => match asg t d ρ with
    | some ρ' => asgs l ds ρ'
    | none => none
  | _, _, _ => none
end
def wipeR (ρ : Rho) : List Nat → Rho
  | [] => ρ
  | v :: vs => (wipeR ρ vs).set v none

/-! ### the syntax -/
inductive E where
  | var (i : Nat) | int (i : Int) | bl (b : Bool) | str (s : List Nat) | non
  | gint (x : Str) (i : Int) | gstr (x : Str) (s : List Nat)
  | op (fz : Bool) (o : BOp) (a b : E) | frz (a : E) | fgt (a : E) | isx (a : E) (t : Str) (ks : List Str) | xfld (a : E) (f : Str) (ks : List Str) | neg (a : E) | cmp (o : COp) (a b : E) | chain (o o' : COp) (a b c : E)
  | land (es : E) | lor (es : E) | lnot (a : E) | ife (t a b : E)
  | tup (es : E) | lst (fz : Bool) (es : E) | dic (es : E)
  | ix (a i : E) | sl (fz : Bool) (a lo hi : E) | rev (fz : Bool) (a : E)
  | b1 (f : B1) (a : E) | b2 (f : B2) (a b : E) | isi (a : E) (t : Ty)
  | mth (m : Mth) (o : E) (es : E)
  | call (i : Nat) (es : E) | meth (i : Nat) (cn m : Str) (o es : E) | make (i : Nat) (cn : Str) (es : E) | fld (o : E) (f : Str) (cs : List Str)
  | gtup (x : Str) (ss : List (List Nat)) | gdin (neg : Bool) (x : Str) (kvs : List (List Nat × List (List Nat))) (a : E) | gdix (x : Str) (kvs : List (List Nat × List (List Nat))) (a : E)
  | mkx0 (c : Str) | mkx (c : Str) (fs : List Str) (es : E)
  | comp (fz : Bool) (it : E) (tg : Tg) (vs : List Nat) (cond elt : E)
  | itL (e : E) | itT (e : E) | itS (e : E) | itR1 (e : E) | itR2 (a b : E) | itEL (e : E) | itET (e : E) | itES (e : E) | itZ (a b : E)
  | nil | cons (a b : E)

abbrev RE := Rho → PH → XQ → (D → PH → Prop) → Prop
abbrev RT := Rho → PH → XQ → (Bool → PH → Prop) → Prop
abbrev RA := Rho → PH → XQ → (List D → PH → Prop) → Prop
abbrev RI := Rho → PH → XQ → (List D → (PH → Prop) → PH → Prop) → Prop
abbrev DSp := List D → PH → XQ → (D → PH → Prop) → Prop
def close (sp : DSp) : DSp := fun ds h xq Q => ∃ (X0 : XQ) (Q0 : D → PH → Prop), sp ds h X0 Q0 ∧ (∀ x h', X0 x h' → xq x h') ∧ ∀ d h', Q0 d h' → Q d h'
theorem close.of {sp : DSp} {ds : List D} {h : PH} {xq : XQ} {Q : D → PH → Prop} (q : sp ds h xq Q) : close sp ds h xq Q := ⟨xq, Q, q, fun _ _ z => z, fun _ _ z => z⟩
def noX : XQ := fun _ _ => False
def spAt (sps : List DSp) (i : Nat) : DSp := match sps[i]? with
  | some sp => close sp
  | none => fun _ _ _ _ => False

/-- the turns of a comprehension -/
def compLoop (tg : Tg) (vs : List Nat) (cond : RT) (elt : RE) (stay : PH → Prop) (ρ : Rho) : List D → List D → PH → (List D → PH → Prop) → Prop
  | [], acc, h, Q => Q acc h
  | d :: ds, acc, h, Q => match asg tg d (wipeR ρ vs) with
    | some ρ1 => cond ρ1 h noX fun b h1 => match b with
      | true => elt ρ1 h1 noX fun y h2 => acc.length < sizeLine ∧ stay h2 ∧ compLoop tg vs cond elt stay ρ ds (acc ++ [y]) h2 Q
      | false => stay h1 ∧ compLoop tg vs cond elt stay ρ ds acc h1 Q
    | none => False
def pairsD : List D → List D → List D
  | x :: xs, y :: ys => .tup [x, y] :: pairsD xs ys
  | _, _ => []
def natsD (n : Nat) : List D := (List.range n).map fun k : Nat => D.int (k : Int)
/-- two tuples, or two lists, side by side -/
def zipD (x y : D) (h : PH) (R : List D → (PH → Prop) → PH → Prop) : Prop := match rdT x, rdT y with
  | some ds, some es => R (pairsD ds es) (fun _ => True) h
  | _, _ => match rdL h x, rdL h y with
    | some ds, some es => R (pairsD ds es) (fun h' => rdL h' x = some ds ∧ rdL h' y = some es) h
    | _, _ => False
def optI : D → Option (Option Int)
  | .int i => some (some i)
  | _ => none

mutual
def rdE (sps : List DSp) : E → RE
  | .var i => fun ρ h _ Q => match ρ[i]? with
    | some (some d) => Q d h
    | _ => False
  | .int i => fun _ h _ Q => Q (.int i) h
  | .bl b => fun _ h _ Q => Q (.bl b) h
  | .str s => fun _ h _ Q => Q (.str s) h
  | .non => fun _ h _ Q => Q .non h
  | .gint _ i => fun _ h _ Q => Q (.int i) h
  | .gstr _ s => fun _ h _ Q => Q (.str s) h
  | .op fz o a b => fun ρ h xq Q => rdE sps a ρ h xq fun x h1 => rdE sps b ρ h1 xq fun y h2 => binD fz o x y h2 Q
  | .frz a => fun ρ h xq Q => rdE sps a ρ h xq (frzK Q)
  | .fgt a => fun ρ h xq Q => rdE sps a ρ h (fgtX xq) fun d h1 => ∃ h2, Ext h2 h1 ∧ Q d h2
  | .isx a t ks => fun ρ h xq Q => rdE sps a ρ h xq fun x h1 => match x with
    | .ref p => match h1 p with
      | some (.exc c _) => c ∈ ks ∧ Q (.bl (subE c t)) h1
      | _ => False
    | _ => False
  | .xfld a f ks => fun ρ h xq Q => rdE sps a ρ h xq fun x h1 => match x with
    | .ref p => match h1 p with
      | some (.exc c fs) => c ∈ ks ∧ match fs.lookup f with
        | some d => Q d h1
        | none => False
      | _ => False
    | _ => False
  | .neg a => fun ρ h xq Q => rdE sps a ρ h xq fun x h1 => match x with
    | .int i => Q (.int (-i)) h1
    | _ => False
  | .cmp o a b => fun ρ h xq Q => rdE sps a ρ h xq fun x h1 => rdE sps b ρ h1 xq fun y h2 => cmpD o x y h2 fun k => Q (.bl k) h2
  | .chain o o' a b c => fun ρ h xq Q => rdE sps a ρ h xq fun x h1 => rdE sps b ρ h1 xq fun y h2 => cmpD o x y h2 fun k => match k with
    | true => rdE sps c ρ h2 xq fun z h3 => cmpD o' y z h3 fun k => Q (.bl k) h3
    | false => Q (.bl false) h2
  | .land es => rdAnd sps es
  | .lor es => rdOr sps es
  | .lnot a => fun ρ h xq Q => rdE sps a ρ h xq fun x h1 => truQ h1 x fun b => Q (.bl (!b)) h1
  | .ife t a b => fun ρ h xq Q => rdT_ sps t ρ h xq fun k h1 => match k with
    | true => rdE sps a ρ h1 xq Q
    | false => rdE sps b ρ h1 xq Q
  | .tup es => fun ρ h xq Q => rdA sps es ρ h xq fun ds h1 => ds.length ≤ sizeLine ∧ Q (.tup ds) h1
  | .lst fz es => fun ρ h xq Q => rdA sps es ρ h xq fun ds h1 => ds.length ≤ sizeLine ∧ newL fz ds h1 Q
  | .dic es => fun ρ h xq Q => rdA sps es ρ h xq fun ds h1 => match kvPairs ds with
    | some kvs => kvs.length ≤ 15 ∧ alloc (.dct (mergeD [] kvs)) h1 Q
    | none => False
  | .ix a i => fun ρ h xq Q => rdE sps a ρ h xq fun x h1 => rdE sps i ρ h1 xq fun y h2 => ixD x y h2 Q
  | .sl fz a lo hi => fun ρ h xq Q => rdE sps a ρ h xq fun x h1 => rdO sps lo ρ h1 xq fun l h2 => rdO sps hi ρ h2 xq fun u h3 => slD fz x l u h3 Q
  | .rev fz a => fun ρ h xq Q => rdE sps a ρ h xq fun x h1 => match rdL h1 x with
    | some ds => newL fz ds.reverse h1 Q
    | none => False
  | .b1 f a => fun ρ h xq Q => rdE sps a ρ h xq fun x h1 => b1D f x h1 Q
  | .b2 f a b => fun ρ h xq Q => rdE sps a ρ h xq fun x h1 => rdE sps b ρ h1 xq fun y h2 => b2D f x y h2 Q
  | .isi a t => fun ρ h xq Q => rdE sps a ρ h xq fun x h1 => isData x h1 = true ∧ isiD t x h1 fun k => Q (.bl k) h1
  | .mth m o es => fun ρ h xq Q => rdE sps o ρ h xq fun x h1 => tyB m x h1 = true ∧ rdA sps es ρ h1 xq fun ds h2 => mthD m x ds h2 Q
  | .call i es => fun ρ h xq Q => rdA sps es ρ h xq fun ds h1 => spAt sps i ds h1 xq Q
  | .meth i cn m o es => fun ρ h xq Q => rdE sps o ρ h xq fun x h1 => match x with
    | .ref a => match h1 a with
      | some (.ins c fs) => c = cn ∧ fs.lookup m = none ∧ rdA sps es ρ h1 xq fun ds h2 => spAt sps i (.ref a :: ds) h2 xq Q
      | _ => False
    | _ => False
  | .make i cn es => fun ρ h xq Q => rdA sps es ρ h xq fun ds h1 => ∀ (p : Addr) (h2 : PH), h1 p = none → h2 p = some (.ins cn []) → Ext h1 h2 → spAt sps i (.ref p :: ds) h2 xq fun v h3 => v = .non ∧ Q (.ref p) h3
  | .fld o f cs => fun ρ h xq Q => rdE sps o ρ h xq fun x h1 => match x with
    | .ref a => match h1 a with
      | some (.ins c fs) => c ∈ cs ∧ match fs.lookup f with
        | some d => Q d h1
        | none => False
      | _ => False
    | _ => False
  | .comp fz it tg vs cond elt => fun ρ h xq Q => rdI sps it ρ h xq fun items stay h1 =>
      compLoop tg vs (rdC sps cond) (rdE sps elt) stay ρ items [] h1 fun acc h2 => newL fz acc h2 Q
  | .gtup _ ss => fun _ h _ Q => Q (.tup (ss.map D.str)) h
  | .gdin neg _ kvs a => fun ρ h xq Q => rdE sps a ρ h xq fun x h1 => match x with
    | .str s => Q (.bl (neg != (kvs.lookup s).isSome)) h1
    | _ => False
  | .gdix _ kvs a => fun ρ h xq Q => rdE sps a ρ h xq fun x h1 => match x with
    | .str s => match kvs.lookup s with
      | some ss => Q (.tup (ss.map D.str)) h1
      | none => False
    | _ => False
  | .mkx0 c => fun _ h _ Q => alloc (.exc c []) h Q
  | .mkx c fs es => fun ρ h xq Q => rdA sps es ρ h xq fun ds h1 => ds.length = fs.length ∧ alloc (.exc c (fs.zip ds).reverse) h1 Q
  | _ => fun _ _ _ _ => False
/-- tests -/
def rdT_ (sps : List DSp) : E → RT
  | .land es => rdAndT sps es
  | .lor es => rdOrT sps es
  | .lnot a => fun ρ h xq Q => rdT_ sps a ρ h xq fun k h1 => Q (!k) h1
  | .cmp o a b => fun ρ h xq Q => rdE sps a ρ h xq fun x h1 => rdE sps b ρ h1 xq fun y h2 => cmpD o x y h2 fun k => Q k h2
  | .chain o o' a b c => fun ρ h xq Q => rdE sps a ρ h xq fun x h1 => rdE sps b ρ h1 xq fun y h2 => cmpD o x y h2 fun k => match k with
    | true => rdE sps c ρ h2 xq fun z h3 => cmpD o' y z h3 fun k => Q k h3
    | false => Q false h2
  | .gdin neg _ kvs a => fun ρ h xq Q => rdE sps a ρ h xq fun x h1 => match x with
    | .str s => Q (neg != (kvs.lookup s).isSome) h1
    | _ => False
  | .ife _ _ _ => fun _ _ _ _ => False
  | e => fun ρ h xq Q => rdE sps e ρ h xq fun x h1 => truQ h1 x fun k => Q k h1
def rdAndT (sps : List DSp) : E → RT
  | .cons a .nil => rdT_ sps a
  | .cons a r => fun ρ h xq Q => rdT_ sps a ρ h xq fun k h1 => match k with
    | true => rdAndT sps r ρ h1 xq Q
    | false => Q false h1
  | _ => fun _ _ _ _ => False
def rdOrT (sps : List DSp) : E → RT
  | .cons a .nil => rdT_ sps a
  | .cons a r => fun ρ h xq Q => rdT_ sps a ρ h xq fun k h1 => match k with
    | true => Q true h1
    | false => rdOrT sps r ρ h1 xq Q
  | _ => fun _ _ _ _ => False
/-- and, or as values -/
def rdAnd (sps : List DSp) : E → RE
  | .cons a .nil => rdE sps a
  | .cons a r => fun ρ h xq Q => rdE sps a ρ h xq fun x h1 => truQ h1 x fun k => match k with
    | true => rdAnd sps r ρ h1 xq Q
    | false => Q x h1
  | _ => fun _ _ _ _ => False
def rdOr (sps : List DSp) : E → RE
  | .cons a .nil => rdE sps a
  | .cons a r => fun ρ h xq Q => rdE sps a ρ h xq fun x h1 => truQ h1 x fun k => match k with
    | true => Q x h1
    | false => rdOr sps r ρ h1 xq Q
  | _ => fun _ _ _ _ => False
def rdA (sps : List DSp) : E → RA
  | .nil => fun _ h _ Q => Q [] h
  | .cons a r => fun ρ h xq Q => rdE sps a ρ h xq fun x h1 => rdA sps r ρ h1 xq fun xs h2 => Q (x :: xs) h2
  | _ => fun _ _ _ _ => False
/-- a bound of a cut -/
def rdO (sps : List DSp) : E → Rho → PH → XQ → (Option Int → PH → Prop) → Prop
  | .nil => fun _ h _ Q => Q none h
  | e => fun ρ h xq Q => rdE sps e ρ h xq fun x h1 => match x with
    | .int i => Q (some i) h1
    | _ => False
/-- tests of a comprehension: none, or one -/
def rdC (sps : List DSp) : E → RT
  | .nil => fun _ h _ Q => Q true h
  | .cons a .nil => rdT_ sps a
  | _ => fun _ _ _ _ => False
def rdI (sps : List DSp) : E → RI
  | .itL e => fun ρ h xq R => rdE sps e ρ h xq fun x h1 => match x with
    | .tup ds => R ds (fun _ => True) h1
    | .str s => R (s.map fun c => .str [c]) (fun _ => True) h1
    | x => match rdL h1 x with
      | some ds => R ds (fun h' => rdL h' x = some ds) h1
      | none => False
  | .itR1 e => fun ρ h xq R => rdE sps e ρ h xq fun x h1 => match x with
    | .int j => -(2 ^ 62) ≤ j ∧ j < 2 ^ 62 ∧ R (natsD j.toNat) (fun _ => True) h1
    | _ => False
  | .itR2 a b => fun ρ h xq R => rdE sps a ρ h xq fun x h1 => rdE sps b ρ h1 xq fun y h2 => match x, y with
    | .int i, .int j => (-(2 ^ 62) ≤ i ∧ i < 2 ^ 62 ∧ -(2 ^ 62) ≤ j ∧ j < 2 ^ 62) ∧ R ((List.range (j - i).toNat).map fun k : Nat => D.int (i + (k : Int))) (fun _ => True) h2
    | _, _ => False
  | .itEL e => fun ρ h xq R => rdE sps e ρ h xq fun x h1 => match x with
    | .tup ds => R (pairsD (natsD ds.length) ds) (fun _ => True) h1
    | .str s => R (pairsD (natsD s.length) (s.map fun c => .str [c])) (fun _ => True) h1
    | x => match rdL h1 x with
      | some ds => R (pairsD (natsD ds.length) ds) (fun h' => rdL h' x = some ds) h1
      | none => False
  | .itZ a b => fun ρ h xq R => rdE sps a ρ h xq fun x h1 => rdE sps b ρ h1 xq fun y h2 => zipD x y h2 R
  | _ => fun _ _ _ _ => False
end

/-! ### statements -/
inductive SV where | exn | non | bl (b : Bool)
inductive S where
  | expr (e : E) | set (tg : Tg) (e : E) | setC (i : Nat) (e : E) | setT (tgs e : E) | setF (o : E) (f : Str) (e : E) (cs : List Str) | augF (o : E) (f : Str) (e : E) (cs : List Str) | setI (o i e : E) | aug (i : Nat) (e : E)
  | par2 (i j : Nat) (a b : E) | par3 (i j l : Nat) (a b c : E)
  | ret (e : E) | retN | ife (t : E) (a b : S) | whl (t : E) (b : S) | for_ (it : E) (tg : Tg) (b : S) | brk | cont | pass
  | raise (c : Str) (fs : List Str) (es : E)
  | try1 (b : S) (ks : List Str) (c : Str) (n : Option Nat) (su : List (Nat × SV))
  | nil | cons (a b : S)
structure DEnds where
  nx : Rho → PH → Prop
  rt : D → PH → Prop
  bk : Rho → PH → Prop := fun _ _ => False
  ct : Rho → PH → Prop := fun _ _ => False
  xq : Rho → Exc → PH → Prop := fun _ _ _ => False
abbrev RS := DEnds → Rho → PH → Prop
def whileN (t : RT) (b : RS) : Nat → RS
  | 0 => fun _ _ _ => False
  | n + 1 => fun Z ρ h => t ρ h (Z.xq ρ) fun k h1 => match k with
    | true => b { Z with nx := whileN t b n Z, ct := whileN t b n Z, bk := Z.nx } ρ h1
    | false => Z.nx ρ h1
def forLoop (tg : Tg) (b : RS) (stay : PH → Prop) : List D → RS
  | [] => fun Z ρ h => Z.nx ρ h
  | d :: ds => fun Z ρ h => match asg tg d ρ with
    | some ρ1 => b { Z with nx := fun ρ' h' => stay h' ∧ forLoop tg b stay ds Z ρ' h', ct := fun ρ' h' => stay h' ∧ forLoop tg b stay ds Z ρ' h', bk := Z.nx } ρ1 h
    | none => False
def svD (p : Addr) : SV → D
  | .exn => .ref p
  | .non => .non
  | .bl b => .bl b
def suite (p : Addr) : List (Nat × SV) → Rho → Rho
  | [], ρ => ρ
  | (i, v) :: r, ρ => suite p r (ρ.set i (some (svD p v)))
def eLen : E → Nat
  | .cons _ r => eLen r + 1
  | _ => 0
/-- a tuple's items into items of lists and dicts -/
def rdSubs (sps : List DSp) : E → List D → Rho → PH → XQ → (PH → Prop) → Prop
  | .nil, [], _, h, _, Q => Q h
  | .cons o (.cons i r), d :: ds, ρ, h, xq, Q => rdE sps o ρ h xq fun x h1 => rdE sps i ρ h1 xq fun k h2 => setD x k d h2 fun h3 => rdSubs sps r ds ρ h3 xq Q
  | _, _, _, _, _, _ => False
def rdS (sps : List DSp) : S → RS
  | .expr e => fun Z ρ h => rdE sps e ρ h (Z.xq ρ) fun _ h1 => Z.nx ρ h1
  | .set tg e => fun Z ρ h => rdE sps e ρ h (Z.xq ρ) fun x h1 => match asg tg x ρ with
    | some ρ1 => Z.nx ρ1 h1
    | none => False
  | .setC i e => fun Z ρ h => rdE sps e ρ h (Z.xq ρ) fun x h1 => Z.nx (ρ.set i (some x)) h1
  | .setT tgs e => fun Z ρ h => rdE sps e ρ h (Z.xq ρ) fun x h1 => match x with
    | .tup ds => eLen tgs = 2 * ds.length ∧ rdSubs sps tgs ds ρ h1 (Z.xq ρ) fun h2 => Z.nx ρ h2
    | _ => False
  | .setF o f e cs => fun Z ρ h => rdE sps e ρ h (Z.xq ρ) fun y h1 => rdE sps o ρ h1 (Z.xq ρ) fun x h2 => match x with
    | .ref a => match h2 a with
      | some (.ins c fs) => c ∈ cs ∧ fs.length < 100 ∧ put a (.ins c (putFs f y fs)) h2 fun h3 => Z.nx ρ h3
      | _ => False
    | _ => False
  | .augF o f e cs => fun Z ρ h => rdE sps o ρ h (Z.xq ρ) fun x h1 => match x with
    | .ref a => match h1 a with
      | some (.ins c fs) => c ∈ cs ∧ match fs.lookup f with
        | some (.int i) => rdE sps e ρ h1 (Z.xq ρ) fun y h2 => match y, h2 a with
          | .int j, some (.ins c' fs') => c' = c ∧ fs'.length < 100 ∧ put a (.ins c (putFs f (.int (i + j)) fs')) h2 fun h3 => Z.nx ρ h3
          | _, _ => False
        | _ => False
      | _ => False
    | _ => False
  | .setI o i e => fun Z ρ h => rdE sps e ρ h (Z.xq ρ) fun y h1 => rdE sps o ρ h1 (Z.xq ρ) fun x h2 => rdE sps i ρ h2 (Z.xq ρ) fun k h3 => setD x k y h3 fun h4 => Z.nx ρ h4
  | .aug i e => fun Z ρ h => match ρ[i]? with
    | some (some x) => rdE sps e ρ h (Z.xq ρ) fun y h1 => match x, y with
      | .int a, .int b => Z.nx (ρ.set i (some (.int (a + b)))) h1
      | _, _ => False
    | _ => False
  | .par2 i j a b => fun Z ρ h => rdE sps a ρ h (Z.xq ρ) fun x h1 => rdE sps b ρ h1 (Z.xq ρ) fun y h2 => Z.nx ((ρ.set i (some x)).set j (some y)) h2
  | .par3 i j l a b c => fun Z ρ h => rdE sps a ρ h (Z.xq ρ) fun x h1 => rdE sps b ρ h1 (Z.xq ρ) fun y h2 => rdE sps c ρ h2 (Z.xq ρ) fun z h3 => Z.nx (((ρ.set i (some x)).set j (some y)).set l (some z)) h3
  | .ret e => fun Z ρ h => rdE sps e ρ h (Z.xq ρ) Z.rt
  | .retN => fun Z _ h => Z.rt .non h
  | .ife t a b => fun Z ρ h => rdT_ sps t ρ h (Z.xq ρ) fun k h1 => match k with
    | true => rdS sps a Z ρ h1
    | false => rdS sps b Z ρ h1
  | .whl t b => fun Z ρ h => ∃ n, whileN (rdT_ sps t) (rdS sps b) n Z ρ h
  | .for_ it tg b => fun Z ρ h => rdI sps it ρ h (Z.xq ρ) fun items stay h1 => forLoop tg (rdS sps b) stay items Z ρ h1
  | .brk => fun Z ρ h => Z.bk ρ h
  | .cont => fun Z ρ h => Z.ct ρ h
  | .pass => fun Z ρ h => Z.nx ρ h
  | .raise c fs es => fun Z ρ h => rdA sps es ρ h (Z.xq ρ) fun ds h1 => ds.length = fs.length ∧ Z.xq ρ ⟨c, (fs.zip ds).reverse⟩ h1
  | .try1 b ks c n su => fun Z ρ h => rdS sps b { Z with xq := fun ρ' x h' => x.cls ∈ ks ∧ match subE x.cls c with
      | true => match n with
        | some i => ∀ (p : Addr) (h2 : PH), h' p = none → h2 p = some (.exc x.cls x.fs) → Ext h' h2 → Z.nx ((suite p su (ρ'.set i (some (.ref p)))).set i none) h2
        | none => Z.nx (suite 0 su ρ') h'
      | false => Z.xq ρ' x h' } ρ h
  | .nil => fun Z ρ h => Z.nx ρ h
  | .cons a b => fun Z ρ h => rdS sps a { Z with nx := rdS sps b Z } ρ h
end Lit
/-! Each operation upon told values is what the layer's rules say. -/
namespace Lit
open PySem PySem.Spec PyProof.Rows L2

def Out (K : PySem.W.Frag) (H : Hp) (h : PH) (Qd : D → PH → Prop) (Q : VK) : Prop := ∀ r h' v H', Qd r h' → RelD K H' r v → RelH K H' h' → Frm H h H' h' → Q v H'
def OutB (K : PySem.W.Frag) (H : Hp) (h : PH) (Qd : Bool → Prop) (Q : VK) : Prop := ∀ b, Qd b → Q (.bl b) H

section
variable {K : PySem.W.Frag} {H : Hp} {h : PH} {Qd : D → PH → Prop} {Q : VK} {d e : D} {x y : V} {ds : List D}
/-- the heap stays -/
theorem Out.at (o : Out K H h Qd Q) (r : RelH K H h) {d : D} {v : V} (q : Qd d h) (rd : RelD K H d v) : Q v H := o d h v H q rd r Frm.refl
theorem Out.int (o : Out K H h Qd Q) (r : RelH K H h) {i : Int} (q : Qd (.int i) h) : Q (.int i) H := o.at r q rfl
theorem Out.str (o : Out K H h Qd Q) (r : RelH K H h) {i : List Nat} (q : Qd (.str i) h) : Q (.str (mkS i)) H := o.at r q rfl
theorem Out.bl (o : Out K H h Qd Q) (r : RelH K H h) {i : Bool} (q : Qd (.bl i) h) : Q (.bl i) H := o.at r q rfl
theorem Out.non (o : Out K H h Qd Q) (r : RelH K H h) (q : Qd .non h) : Q .non H := o.at r q rfl
/-- a new tuple -/
theorem Out.tup (o : Out K H h Qd Q) (r : RelH K H h) {ds : List D} {vs : List V} {p : Addr} (n : H p = none) (q : Qd (.tup ds) h) (rv : RelDs K H ds vs) : Q (.ref p) (upd H p (.tup vs)) := by
  have hn := r.free n
  refine o (.tup ds) h _ _ q ?_ (r.laid n hn) (.laid n)
  simp only [RelD]
  exact ⟨p, vs, rfl, .inl upd_same, rv.keep (Stay.upd.keeps (.free n))⟩
/-- a new told list -/
theorem Out.lst (o : Out K H h Qd Q) (r : RelH K H h) {ds : List D} {vs : List V} {p : Addr} (n : H p = none) (q : alloc (.lst ds) h Qd) (rv : RelDs K H ds vs) : Q (.ref p) (upd H p (.lst vs)) := by
  have hn := r.free n
  have q' : Qd (.ref p) (updP h p (.lst ds)) := q p _ hn updP_same fun b u e => by
    rw [updP_ne (fun z => by rw [z, hn] at e; cases e)]
    exact e
  refine o (.ref p) _ _ _ q' rfl ?_ (.put (.inr n))
  exact r.put (.free n) ⟨vs, upd_same, rv.keep (Stay.upd.keeps (.free n))⟩
/-- a new list, frozen at once or not -/
theorem Out.newL (o : Out K H h Qd Q) (r : RelH K H h) {fz : Bool} {ds : List D} {vs : List V} {p : Addr} (n : H p = none) (q : newL fz ds h Qd) (rv : RelDs K H ds vs) : frQ Q (.ref p) (upd H p (.lst vs)) := by
  cases fz with
  | false => exact .inl (o.lst r n q rv)
  | true =>
    have hn := r.free n
    refine .inr ⟨p, vs, rfl, upd_same, fun ob => ?_⟩
    rw [upd_upd]
    refine o (.rol ds) h _ _ q ?_ (r.laid n hn) (.laid n)
    simp only [RelD]
    exact ⟨p, vs, rfl, .inl ⟨ob, upd_same⟩, rv.keep (Stay.upd.keeps (.free n))⟩
/-- what is told may be forgotten -/
theorem Out.fgt (o : Out K H h Qd Q) {H1 : Hp} {h1 : PH} {d : D} {v : V} (q : ∃ h2, Ext h2 h1 ∧ Qd d h2) (rd : RelD K H1 d v) (r : RelH K H1 h1) (f : Frm H h H1 h1) : Q v H1 := by
  obtain ⟨h2, e2, q⟩ := q
  refine o d h2 v H1 q rd (fun b u e => r b u (e2 b u e)) fun b u e n => ?_
  obtain ⟨f1, f2⟩ := f b u e n
  refine ⟨f1, ?_⟩
  cases e3 : h2 b with
  | none => rfl
  | some w => rw [e2 b w e3] at f2; cases f2
/-- a told list is frozen -/
theorem Out.frz (o : Out K H h Qd Q) {H1 : Hp} {h1 : PH} {d : D} {v : V} (q : frzK Qd d h1) (rd : RelD K H1 d v) (r : RelH K H1 h1) (f : Frm H h H1 h1) : frQ Q v H1 := by
  cases d with
  | ref a =>
    have q' : (match h1 a with
      | some (.lst ds) => ∃ h2, Ext h2 h1 ∧ h2 a = none ∧ Qd (.rol ds) h2
      | _ => False) := q
    cases ha : h1 a with
    | none => rw [ha] at q'; exact q'.elim
    | some ob =>
      rw [ha] at q'
      cases ob with
      | lst ds =>
        obtain ⟨h2, e2, n2, q2⟩ := q'
        obtain ⟨vs, hv, rv⟩ := r a _ ha
        have ev : v = .ref a := rd
        subst ev
        refine .inr ⟨a, vs, rfl, hv, fun ob => ?_⟩
        have nt : NoT H1 a := r.noT ha
        refine o (.rol ds) h2 _ _ q2 ?_ (fun b u e => ?_) (fun b u e n => ?_)
        · simp only [RelD]
          exact ⟨a, vs, rfl, .inl ⟨ob, upd_same⟩, rv.keep (Stay.upd.keeps nt)⟩
        · have hb : b ≠ a := fun z => by rw [z, n2] at e; cases e
          exact RelO.keep (K := K) (a := b) (Stay.upd.keeps nt) (fun w z => by rw [upd_ne hb]; exact z) (r b u (e2 b u e))
        · obtain ⟨f1, f2⟩ := f b u e n
          have hb : b ≠ a := fun z => by rw [z, ha] at f2; cases f2
          refine ⟨by rw [upd_ne hb]; exact f1, ?_⟩
          cases e3 : h2 b with
          | none => rfl
          | some w => rw [e2 b w e3] at f2; cases f2
      | _ => exact q'.elim
  | _ => exact q.elim
/-- a told place put otherwise -/
theorem put_ok (r : RelH K H h) {a : Addr} {o o' : PO} {u : HO} {P : PH → Prop} (ha : h a = some o) (q : put a o' h P) (ro : RelO K (upd H a u) a o') :
    ∃ h', P h' ∧ RelH K (upd H a u) h' ∧ Frm H h (upd H a u) h' :=
  ⟨updP h a o', q _ updP_same (fun b u n e => by rw [updP_ne n]; exact e), r.put (r.noT ha) ro, .put (.inl (by rw [ha]; exact fun z => nomatch z))⟩

theorem rdM_ok (r : RelH K H h) (q : RelD K H d x) (e : rdM h d = some ds) : ∃ a vs, d = .ref a ∧ x = .ref a ∧ H a = some (.lst vs) ∧ RelDs K H ds vs ∧ h a = some (.lst ds) := by
  cases d with
  | ref a =>
    have e' : (match h a with
      | some (.lst ds) => some ds
      | _ => none) = some ds := e
    cases ha : h a with
    | none => rw [ha] at e'; cases e'
    | some o =>
      rw [ha] at e'
      cases o with
      | lst es =>
        cases e'
        obtain ⟨vs, z, rv⟩ := r a _ ha
        have q' : x = .ref a := q
        exact ⟨a, vs, rfl, q', z, rv, ha⟩
      | _ => cases e'
  | _ => cases e
theorem rdL_ok (r : RelH K H h) (q : RelD K H d x) (e : rdL h d = some ds) : ∃ a vs, x = .ref a ∧ SqL K H a vs ∧ RelDs K H ds vs := by
  cases d with
  | ref a =>
    obtain ⟨b, vs, e1, e2, e3, e4, _⟩ := rdM_ok r q (show rdM h (.ref a) = some ds from e)
    exact ⟨b, vs, e2, .of e3, e4⟩
  | rol es =>
    cases e
    simp only [RelD] at q
    obtain ⟨a, vs, e1, e2, e3⟩ := q
    exact ⟨a, vs, e1, e2.sq, e3⟩
  | _ => cases e
theorem rdQ_ok (r : RelH K H h) (q : RelD K H d x) (e : rdQ h d = some ds) : ∃ a vs, x = .ref a ∧ (SqL K H a vs ∨ SqT K H a vs) ∧ RelDs K H ds vs := by
  cases d with
  | tup es =>
    cases e
    simp only [RelD] at q
    obtain ⟨a, vs, e1, e2, e3⟩ := q
    exact ⟨a, vs, e1, .inr e2.sq, e3⟩
  | ref a =>
    obtain ⟨a, vs, e1, e2, e3⟩ := rdL_ok r q (show rdL h _ = some ds from e)
    exact ⟨a, vs, e1, .inl e2, e3⟩
  | rol es =>
    obtain ⟨a, vs, e1, e2, e3⟩ := rdL_ok r q (show rdL h _ = some ds from e)
    exact ⟨a, vs, e1, .inl e2, e3⟩
  | non => cases e
  | bl b => cases e
  | int i => cases e
  | str s => cases e
theorem relStr {s : List Nat} (q : RelD K H (.str s) x) : x = .str (mkS s) := q
theorem relInt {s : Int} (q : RelD K H (.int s) x) : x = .int s := q
theorem relBl {s : Bool} (q : RelD K H (.bl s) x) : x = .bl s := q
theorem relNon (q : RelD K H .non x) : x = .non := q
theorem relRef {a : Addr} (q : RelD K H (.ref a) x) : x = .ref a := q
theorem relTup {ds : List D} (q : RelD K H (.tup ds) x) : ∃ a vs, x = .ref a ∧ SqT K H a vs ∧ RelDs K H ds vs := by
  simp only [RelD] at q
  obtain ⟨a, vs, e1, e2, e3⟩ := q
  exact ⟨a, vs, e1, e2.sq, e3⟩
theorem relTupK {ds : List D} (q : RelD K H (.tup ds) x) (ok : keyOk (.tup ds) = true) : ∃ a vs, x = .ref a ∧ H a = some (.tup vs) ∧ RelDs K H ds vs := by
  simp only [RelD] at q
  obtain ⟨a, vs, e1, e2, e3⟩ := q
  exact ⟨a, vs, e1, e2.key ok, e3⟩
theorem RelDs.rep {ds : List D} {vs : List V} (q : RelDs K H ds vs) : ∀ k : Nat, RelDs K H (List.replicate k ds).flatten (List.replicate k vs).flatten
  | 0 => by simp only [List.replicate_zero, List.flatten_nil]; exact .nil
  | k + 1 => by
    simp only [List.replicate_succ, List.flatten_cons]
    exact q.append (RelDs.rep q k)
theorem RelDs.cut {ds : List D} {vs : List V} (q : RelDs K H ds vs) (lo hi : Option Int) : RelDs K H (cutL ds lo hi) (cutV vs lo hi) := by
  unfold cutL cutV
  rw [q.len]
  exact (q.drop _).take _
theorem mkS_app (a b : List Nat) : mkS a ++ mkS b = mkS (a ++ b) := by
  show (⟨a.toArray ++ b.toArray⟩ : Str) = ⟨(a ++ b).toArray⟩
  simp
theorem mkS_len (a : List Nat) : (mkS a).length = a.length := by
  show a.toArray.size = a.length
  simp
theorem mkS_of (z : Str) : mkS z.cps.toList = z := by
  cases z
  simp [mkS]
theorem mkS_inj {a b : List Nat} : mkS a = mkS b ↔ a = b := by
  constructor
  · intro q
    have q' : a.toArray = b.toArray := congrArg Str.cps q
    simpa using q'
  · rintro rfl; rfl
end

/-- a list, told or frozen -/
theorem rdL_li {K : PySem.W.Frag} {H : Hp} {h : PH} {d : D} {x : V} {ds : List D} (r : RelH K H h) (q : RelD K H d x) (e : rdL h d = some ds) : ∃ a vs, x = .ref a ∧ LiF K H a vs ∧ RelDs K H ds vs := by
  cases d with
  | ref a =>
    obtain ⟨b, vs, e1, e2, e3, e4, _⟩ := rdM_ok r q (show rdM h (.ref a) = some ds from e)
    exact ⟨b, vs, e2, .inl e3, e4⟩
  | rol es =>
    cases e
    simp only [RelD] at q
    obtain ⟨a, vs, e1, e2, e3⟩ := q
    exact ⟨a, vs, e1, .inr e2, e3⟩
  | _ => cases e
/-! ### a lifted reading of two values -/
def rOp (K : PySem.W.Frag) (b : D → D → PH → (D → PH → Prop) → Prop) : R2 := fun x y H Q => ∃ d e h Qd, RelD K H d x ∧ RelD K H e y ∧ RelH K H h ∧ b d e h Qd ∧ Out K H h Qd Q
def toOp : BOp → Operator
  | .add => .Add
  | .sub => .Sub
  | .mul => .Mult
  | .fdiv => .FloorDiv
  | .mod => .Mod
  | .pow => .Pow
section
variable {X : Cx}
theorem op_bin0 (fz : Bool) (o : BOp) (hm : o ≠ .mul) : OpR X (binaryOp (toOp o)) (rOp X.K (binD fz o)) := by
  intro pins s σ H x y v u Q I rx ry hq
  obtain ⟨d, e, h, Qd, rd, re, rh, b, out⟩ := hq
  cases o with
  | add =>
    have viaL : (match rdL h d, rdL h e with
        | some a, some b => a.length + b.length ≤ sizeLine ∧ newL fz (a ++ b) h Qd
        | _, _ => False) → wpAny (model X.prog X.w) X.A (binaryOp .Add v u) (EP X pins σ Q) X.xe s := fun b => by
      cases e1 : rdL h d with
      | none => rw [e1] at b; exact b.elim
      | some ds =>
        cases e2 : rdL h e with
        | none => rw [e1, e2] at b; exact b.elim
        | some es =>
          rw [e1, e2] at b
          obtain ⟨hz, b⟩ := b
          obtain ⟨a1, vs, rfl, h1, r1⟩ := rdL_li rh rd e1
          obtain ⟨a2, ws, rfl, h2, r2⟩ := rdL_li rh re e2
          refine op_catF.fr pins s σ H _ _ v u Q I rx ry ⟨a1, a2, vs, ws, rfl, rfl, h1, h2, by rw [r1.len, r2.len]; exact hz, fun p hp => ?_⟩
          exact out.newL rh hp b (r1.append r2)
    cases d with
    | int i =>
      cases e with
      | int j =>
        have b' : Qd (.int (i + j)) h := b
        cases relInt rd; cases relInt re
        exact op_add pins s σ H _ _ v u Q I rx ry ⟨i, j, rfl, rfl, out.int rh b'⟩
      | _ => exact viaL b
    | str i =>
      cases e with
      | str j =>
        have b' : i.length + j.length ≤ sizeLine ∧ Qd (.str (i ++ j)) h := b
        cases relStr rd; cases relStr re
        refine op_add_str pins s σ H _ _ v u Q I rx ry ⟨_, _, rfl, rfl, by rw [mkS_len, mkS_len]; exact b'.1, ?_⟩
        rw [mkS_app]
        exact out.str rh b'.2
      | _ => exact viaL b
    | tup i =>
      cases e with
      | tup j =>
        have b' : i.length + j.length ≤ sizeLine ∧ Qd (.tup (i ++ j)) h := b
        obtain ⟨a1, vs, rfl, t1, r1⟩ := relTup rd
        obtain ⟨a2, ws, rfl, t2, r2⟩ := relTup re
        refine op_catA pins s σ H _ _ v u Q I rx ry ⟨a1, a2, vs, ws, rfl, rfl, t1, t2, by rw [r1.len, r2.len]; exact b'.1, ?_⟩
        refine ⟨fun e => ?_, fun _ e => ?_, fun _ _ p hp => out.tup rh hp b'.2 (r1.append r2)⟩
        · subst e
          have z : i = [] := List.eq_nil_of_length_eq_zero (by rw [← r1.len]; rfl)
          subst z
          exact out.at rh b'.2 re
        · subst e
          have z : j = [] := List.eq_nil_of_length_eq_zero (by rw [← r2.len]; rfl)
          subst z
          have b2 := b'.2
          rw [List.append_nil] at b2
          exact out.at rh b2 rd
      | _ => exact viaL b
    | _ => exact viaL b
  | sub =>
    cases d with
    | int i =>
      cases e with
      | int j =>
        have b' : Qd (.int (i - j)) h := b
        cases relInt rd; cases relInt re
        exact op_sub pins s σ H _ _ v u Q I rx ry ⟨i, j, rfl, rfl, out.int rh b'⟩
      | _ => exact False.elim b
    | _ => exact False.elim b
  | mul => exact absurd rfl hm
  | fdiv =>
    cases d with
    | int i =>
      cases e with
      | int j =>
        have b' : CDiv i j ∧ Qd (.int (i / j)) h := b
        cases relInt rd; cases relInt re
        exact op_fdiv pins s σ H _ _ v u Q I rx ry ⟨i, j, rfl, rfl, b'.1, out.int rh b'.2⟩
      | _ => exact False.elim b
    | _ => exact False.elim b
  | mod =>
    cases d with
    | int i =>
      cases e with
      | int j =>
        have b' : 0 < j ∧ Qd (.int (i % j)) h := b
        cases relInt rd; cases relInt re
        exact op_mod pins s σ H _ _ v u Q I rx ry ⟨i, j, rfl, rfl, b'.1, out.int rh b'.2⟩
      | _ => exact False.elim b
    | _ => exact False.elim b
  | pow =>
    cases d with
    | int i =>
      cases e with
      | int j =>
        have b' : CPow i j ∧ Qd (.int (i ^ j.toNat)) h := b
        cases relInt rd; cases relInt re
        exact op_pow pins s σ H _ _ v u Q I rx ry ⟨i, j, rfl, rfl, b'.1, out.int rh b'.2⟩
      | _ => exact False.elim b
    | _ => exact False.elim b

theorem mulOk {a : List Nat} {k : Int} (h1 : 1 ≤ k) (h2 : k ≤ 10000) (h3 : 0 < a.length) (h4 : a.length ≤ 100) : MulOk (mkS a) k := by
  refine ⟨?_, fun _ _ => ?_, fun _ _ => ?_⟩
  · simp only [Bool.or_eq_false_iff, decide_eq_false_iff_not]
    omega
  · rw [mkS_len]
    have q : (100 : Int) ≤ (2 ^ 63 - 1) / k := (Int.le_ediv_iff_mul_le (by omega)).mpr (by omega)
    omega
  · rw [mkS_len]
    have q : a.length * k.toNat ≤ 100 * 10000 := Nat.mul_le_mul h4 (by omega)
    unfold Builtin.Str.tooLong
    simp only [decide_eq_false_iff_not]
    have z := sizeLine_eq
    omega
theorem flat_rep (a : List Nat) : ∀ (k : Nat) (acc : Array Nat), ((List.replicate k a.toArray).foldl (· ++ ·) acc) = (acc.toList ++ (List.replicate k a).flatten).toArray
  | 0, acc => by simp
  | k + 1, acc => by
    rw [List.replicate_succ, List.foldl_cons, flat_rep a k]
    simp [List.replicate_succ, List.append_assoc]
theorem mul_txt {a : List Nat} {k : Int} (h1 : 1 ≤ k) (h3 : 0 < a.length) : Txt.mul (mkS a) k = mkS (List.replicate k.toNat a).flatten := by
  unfold Txt.mul
  rw [if_neg (by omega)]
  by_cases hk : k = 1
  · subst hk
    rw [if_pos (by simp)]
    simp
  · have q : ((k == 1 || (mkS a).length == 0) : Bool) = false := by
      rw [mkS_len]
      simp [hk]
      intro z
      rw [z] at h3
      simp at h3
    rw [q]
    simp only [Bool.false_eq_true, if_false]
    rw [flat_rep]
    simp
theorem op_bin (fz : Bool) (o : BOp) : OpR X (binaryOp (toOp o)) (rOp X.K (binD fz o)) := by
  by_cases hm : o = .mul
  · subst hm
    intro pins s σ H x y v u Q I rx ry hq
    obtain ⟨d, e, h, Qd, rd, re, rh, b, out⟩ := hq
    have viaL : ∀ k, e = .int k → (match rdM h d with
        | some a => 0 ≤ k ∧ k < 2 ^ 62 ∧ a.length * k.toNat ≤ sizeLine ∧ newL fz (List.replicate k.toNat a).flatten h Qd
        | _ => False) → wpAny (model X.prog X.w) X.A (binaryOp .Mult v u) (EP X pins σ Q) X.xe s := fun k ek bb => by
      subst ek
      cases e1 : rdM h d with
      | none => rw [e1] at bb; exact bb.elim
      | some ds =>
        rw [e1] at bb
        obtain ⟨k0, k1, hz, bb⟩ := bb
        obtain ⟨a1, vs, _, rfl, h1, r1, _⟩ := rdM_ok rh rd e1
        cases relInt re
        refine op_rep.fr pins s σ H _ _ v u Q I rx ry ⟨a1, k, vs, rfl, rfl, h1, by omega, by omega, by rw [r1.len]; exact hz, fun p hp => ?_⟩
        exact out.newL rh hp bb (r1.rep _)
    cases e with
    | int k =>
      cases d with
      | int i =>
        have b' : CMul i k ∧ Qd (.int (i * k)) h := b
        cases relInt rd; cases relInt re
        exact op_mul pins s σ H _ _ v u Q I rx ry ⟨i, k, rfl, rfl, b'.1, out.int rh b'.2⟩
      | str a =>
        have b' : 1 ≤ k ∧ k ≤ 10000 ∧ 0 < a.length ∧ a.length ≤ 100 ∧ Qd (.str (List.replicate k.toNat a).flatten) h := b
        obtain ⟨h1, h2, h3, h4, b'⟩ := b'
        cases relStr rd; cases relInt re
        obtain ⟨t, rfl⟩ := rx
        obtain ⟨t', rfl⟩ := ry
        refine SB.mul (mulOk h1 h2 h3 h4) fun t2 k2 => ?_
        rw [mul_txt h1 h3]
        exact ⟨.str _, H, I.tok _, ⟨_, rfl⟩, out.str rh b'⟩
      | tup a =>
        have b' : if k = 1 then Qd (.tup a) h else a ≠ [] ∧ 2 ≤ k ∧ k ≤ 1000 ∧ a.length ≤ 1000 ∧ Qd (.tup (List.replicate k.toNat a).flatten) h := b
        obtain ⟨a1, vs, rfl, t1, r1⟩ := relTup rd
        cases relInt re
        by_cases k1 : k = 1
        · subst k1
          rw [if_pos rfl] at b'
          exact op_repT1 pins s σ H _ _ v u Q I rx ry ⟨a1, vs, rfl, rfl, t1, out.at rh b' rd⟩
        rw [if_neg k1] at b'
        obtain ⟨h1, h2, h3, h4, b'⟩ := b'
        refine op_repT pins s σ H _ _ v u Q I rx ry ⟨a1, k, vs, rfl, rfl, t1, fun z => ?_, h2, h3, by rw [r1.len]; exact h4, fun p hp => out.tup rh hp b' (r1.rep _)⟩
        apply h1
        apply List.eq_nil_of_length_eq_zero
        rw [← r1.len, z]
        rfl
      | ref a => exact viaL k rfl b
      | rol a => exact viaL k rfl b
      | non => exact viaL k rfl b
      | bl a => exact viaL k rfl b
    | _ => cases d <;> exact False.elim b
  · exact op_bin0 fz o hm

/-! ### comparisons -/
theorem mapM_some {α β : Type} {f : α → Option β} : ∀ {l : List α} {m : List β}, l.mapM f = some m → (l = [] ∧ m = []) ∨ ∃ a r b t, l = a :: r ∧ m = b :: t ∧ f a = some b ∧ r.mapM f = some t
  | [], m, e => by
    left
    refine ⟨rfl, ?_⟩
    simpa using e.symm
  | a :: r, m, e => by
    right
    rw [List.mapM_cons] at e
    cases e1 : f a with
    | none => rw [e1] at e; cases e
    | some b =>
      cases e2 : r.mapM f with
      | none => rw [e1, e2] at e; cases e
      | some t =>
        rw [e1, e2] at e
        have em : b :: t = m := Option.some.inj e
        exact ⟨a, r, b, t, rfl, em.symm, e1, e2⟩
section
variable {K : PySem.W.Frag} {H : Hp} {h : PH}
theorem deref_dps {f : D → Option D} (ih : ∀ d a v, f d = some a → RelD K H d v → Dp K H v (toPD a)) : ∀ (ds : List D) (as : List D) (vs : List V), ds.mapM f = some as → RelDs K H ds vs → DpAll K H vs (toPDs as)
  | [], as, vs, e, r => by
    rcases mapM_some e with ⟨_, e2⟩ | ⟨_, _, _, _, z, _⟩
    · subst e2
      simp only [RelDs] at r
      subst r
      simp only [toPDs]
      exact .nil
    · cases z
  | d :: ds, as, vs, e, r => by
    rcases mapM_some e with ⟨z, _⟩ | ⟨a, r', b, t, z1, z2, z3, z4⟩
    · cases z
    · cases z1
      subst z2
      simp only [RelDs] at r
      obtain ⟨v, q, rfl, r1, r2⟩ := r
      simp only [toPDs]
      exact .cons (ih _ _ _ z3 r1) (deref_dps ih ds t q z4 r2)
theorem deref_dp (rh : RelH K H h) : ∀ (n : Nat) (d a : D) (v : V), deref n h d = some a → RelD K H d v → Dp K H v (toPD a)
  | 0, _, _, _, e, _ => by cases e
  | n + 1, .ref p, a, v, e, r => by
    have e' : (match h p with
      | some (.lst ds) => (ds.mapM (deref n h)).map .rol
      | _ => none) = some a := e
    cases ho : h p with
    | none => rw [ho] at e'; cases e'
    | some o =>
      rw [ho] at e'
      cases o with
      | lst ds =>
        obtain ⟨vs, z, rv⟩ := rh p _ ho
        cases hm : ds.mapM (deref n h) with
        | none =>
          have e2 : (ds.mapM (deref n h)).map D.rol = some a := e'
          rw [hm] at e2; cases e2
        | some as =>
          have e2 : (ds.mapM (deref n h)).map D.rol = some a := e'
          rw [hm] at e2
          cases e2
          cases relRef r
          simp only [toPD]
          exact .lst (.of z) (deref_dps (fun d a v => deref_dp rh n d a v) ds as vs hm rv)
      | _ => cases e'
  | n + 1, .tup ds, a, v, e, r => by
    have e2 : (ds.mapM (deref n h)).map D.tup = some a := e
    cases hm : ds.mapM (deref n h) with
    | none => rw [hm] at e2; cases e2
    | some as =>
      rw [hm] at e2
      cases e2
      obtain ⟨p, vs, rfl, t, rv⟩ := relTup r
      simp only [toPD]
      exact .tup t (deref_dps (fun d a v => deref_dp rh n d a v) ds as vs hm rv)
  | n + 1, .rol ds, a, v, e, r => by
    have e2 : (ds.mapM (deref n h)).map D.rol = some a := e
    cases hm : ds.mapM (deref n h) with
    | none => rw [hm] at e2; cases e2
    | some as =>
      rw [hm] at e2
      cases e2
      simp only [RelD] at r
      obtain ⟨p, vs, rfl, t, rv⟩ := r
      simp only [toPD]
      exact .lst t.sq (deref_dps (fun d a v => deref_dp rh n d a v) ds as vs hm rv)
  | n + 1, .non, a, v, e, r => by cases e; cases relNon r; simp only [toPD]; exact .non
  | n + 1, .bl b, a, v, e, r => by cases e; cases relBl r; simp only [toPD]; exact .bl b
  | n + 1, .int b, a, v, e, r => by cases e; cases relInt r; simp only [toPD]; exact .int b
  | n + 1, .str b, a, v, e, r => by cases e; cases relStr r; simp only [toPD]; exact .str _
theorem flat_ok {d : D} {v : V} (f : flatD d = true) (r : RelD K H d v) : flatV v = true := by
  cases d with
  | non => cases relNon r; rfl
  | bl b => cases relBl r; rfl
  | int b => cases relInt r; rfl
  | str b => cases relStr r; rfl
  | _ => cases f
theorem eqF_ok {d e : D} {v u : V} (f : flatD d = true) (g : flatD e = true) (r : RelD K H d v) (q : RelD K H e u) : eqV v u = eqF d e := by
  cases d with
  | non => cases relNon r; cases e <;> first | (cases relNon q; rfl) | (cases relBl q; rfl) | (cases relInt q; rfl) | (cases relStr q; rfl) | cases g
  | bl b => cases relBl r; cases e <;> first | (cases relNon q; rfl) | (cases relBl q; rfl) | (cases relInt q; show (_ == _) = decide _; rw [Bool.beq_eq_decide_eq]) | (cases relStr q; rfl) | cases g
  | int b => cases relInt r; cases e <;> first | (cases relNon q; rfl) | (cases relBl q; show (_ == _) = decide _; rw [Bool.beq_eq_decide_eq]) | (cases relInt q; show (_ == _) = decide _; rw [Bool.beq_eq_decide_eq]) | (cases relStr q; rfl) | cases g
  | str b =>
    cases relStr r
    cases e with
    | non => cases relNon q; rfl
    | bl c => cases relBl q; rfl
    | int c => cases relInt q; rfl
    | str c =>
      cases relStr q
      show (mkS b == mkS c) = decide (b = c)
      rw [Bool.beq_eq_decide_eq]
      exact decide_eq_decide.mpr mkS_inj
    | _ => cases g
  | _ => cases f
theorem flats_ok : ∀ {ds : List D} {vs : List V}, ds.all flatD = true → RelDs K H ds vs → vs.all flatV = true
  | [], _, _, r => by simp only [RelDs] at r; subst r; rfl
  | d :: ds, _, f, r => by
    simp only [RelDs] at r
    obtain ⟨v, q, rfl, r1, r2⟩ := r
    have f' := Bool.and_eq_true_iff.mp (show (flatD d && ds.all flatD) = true from f)
    show (flatV v && q.all flatV) = true
    rw [flat_ok f'.1 r1, flats_ok f'.2 r2]
    rfl
theorem in_ok {e : D} {u : V} (g : flatD e = true) (q : RelD K H e u) : ∀ {ds : List D} {vs : List V}, ds.all flatD = true → RelDs K H ds vs → inV u vs = ds.any fun d => eqF d e
  | [], _, _, r => by simp only [RelDs] at r; subst r; rfl
  | d :: ds, _, f, r => by
    simp only [RelDs] at r
    obtain ⟨v, w, rfl, r1, r2⟩ := r
    have f' := Bool.and_eq_true_iff.mp (show (flatD d && ds.all flatD) = true from f)
    have ih := in_ok g q f'.2 r2
    show (eqV v u || inV u w) = (eqF d e || ds.any fun d => eqF d e)
    rw [eqF_ok f'.1 g r1 q, ih]
end
theorem noneD_ok {K : PySem.W.Frag} {H : Hp} {d : D} {x : V} (rd : RelD K H d x) : decide (x = V.non) = noneD d := by
  cases d with
  | non => cases relNon rd; rfl
  | bl c => cases relBl rd; rfl
  | int c => cases relInt rd; rfl
  | str c => cases relStr rd; rfl
  | ref c => cases relRef rd; rfl
  | tup c => obtain ⟨_, _, rfl, _⟩ := relTup rd; rfl
  | rol c => simp only [RelD] at rd; obtain ⟨_, _, rfl, _⟩ := rd; rfl
def toC : COp → CmpOp
  | .eq => .Eq
  | .ne => .NotEq
  | .lt => .Lt
  | .le => .LtE
  | .gt => .Gt
  | .ge => .GtE
  | .isin => .In
  | .notin => .NotIn
  | .is => .Is
  | .isnot => .IsNot
def rCmp (K : PySem.W.Frag) (o : COp) : R2 := fun x y H Q => ∃ d e h Qd, RelD K H d x ∧ RelD K H e y ∧ RelH K H h ∧ cmpD o d e h Qd ∧ ∀ b, Qd b → Q (.bl b) H
theorem deep_ok {K : PySem.W.Frag} {H : Hp} {h : PH} {d e : D} {x y : V} {P : Bool → Prop} {Q : VK} (rh : RelH K H h) (rd : RelD K H d x) (re : RelD K H e y) (b : deepEq h d e P) (out : ∀ b, P b → Q (.bl b) H) : rEqD K x y H Q := by
  unfold deepEq at b
  cases e1 : deref 70 h d with
  | none => rw [e1] at b; exact b.elim
  | some a =>
    cases e2 : deref 70 h e with
    | none => rw [e1, e2] at b; exact b.elim
    | some c =>
      rw [e1, e2] at b
      obtain ⟨s1, s2, b⟩ := b
      exact ⟨toPD a, toPD c, deref_dp rh _ _ _ _ e1 rd, deref_dp rh _ _ _ _ e2 re, s1, s2, out _ b⟩
theorem eqQ_ok {K : PySem.W.Frag} {H : Hp} {h : PH} {d e : D} {x y : V} {P : Bool → Prop} {Q : VK} (rh : RelH K H h) (rd : RelD K H d x) (re : RelD K H e y) (b : eqQ h d e P) (out : ∀ b, P b → Q (.bl b) H) : rEq x y H Q ∨ rEqD K x y H Q := by
  cases d with
  | str a =>
    cases e with
    | str c =>
      left
      cases relStr rd; cases relStr re
      refine ⟨rfl, ?_⟩
      have z : decide (V.str (mkS a) = V.str (mkS c)) = decide (a = c) := decide_eq_decide.mpr ⟨fun q => mkS_inj.mp (V.str.inj q), fun q => by rw [q]⟩
      rw [z]
      exact out _ b
    | _ => exact .inr (deep_ok rh rd re b out)
  | int a =>
    cases e with
    | int c =>
      left
      cases relInt rd; cases relInt re
      refine ⟨rfl, ?_⟩
      have z : decide (V.int a = V.int c) = decide (a = c) := decide_eq_decide.mpr ⟨fun q => V.int.inj q, fun q => by rw [q]⟩
      rw [z]
      exact out _ b
    | _ => exact .inr (deep_ok rh rd re b out)
  | _ => exact .inr (deep_ok rh rd re b out)
theorem ne_of_eq {x y : V} {H : Hp} {K : PySem.W.Frag} {Q : VK} (q : rEq x y H (fun v H' => ∀ b, v = .bl b → Q (.bl (!b)) H') ∨ rEqD K x y H (fun v H' => ∀ b, v = .bl b → Q (.bl (!b)) H')) : rNe x y H Q ∨ rNeD K x y H Q := by
  rcases q with ⟨a, b⟩ | ⟨d, e, a1, a2, a3, a4, b⟩
  · exact .inl ⟨a, b _ rfl⟩
  · exact .inr ⟨d, e, a1, a2, a3, a4, b _ rfl⟩
theorem op_cmp (hu : X.A.units + 64 < cLine) (o : COp) : OpR X (compareOp (toC o)) (rCmp X.K o) := by
  intro pins s σ H x y v u Q I rx ry hq
  obtain ⟨d, e, h, Qd, rd, re, rh, b, out⟩ := hq
  have viaIn : ∀ (neg : Bool), (match rdQ h e with
      | some ds => flatD d = true ∧ ds.all flatD = true ∧ Qd (if neg then !(ds.any fun c => eqF c d) else ds.any fun c => eqF c d)
      | none => False) → rIn X.K neg x y H Q := fun neg b => by
    cases e1 : rdQ h e with
    | none => rw [e1] at b; exact b.elim
    | some ds =>
      rw [e1] at b
      obtain ⟨f1, f2, b⟩ := b
      obtain ⟨a, vs, rfl, hs, rv⟩ := rdQ_ok rh re e1
      refine ⟨a, vs, rfl, hs, flat_ok f1 rd, flats_ok f2 rv, ?_⟩
      rw [in_ok f1 rd f2 rv]
      exact out _ b
  cases o with
  | eq => exact (op_eq.or (op_eqD hu)) pins s σ H x y v u Q I rx ry (eqQ_ok rh rd re b out)
  | ne => exact (op_ne.or (op_neD hu)) pins s σ H x y v u Q I rx ry (ne_of_eq (eqQ_ok (P := fun c => Qd (!c)) rh rd re b fun c q b' e => by cases e; exact out _ q))
  | lt =>
    cases d with
    | int i =>
      cases e with
      | int j => cases relInt rd; cases relInt re; exact op_lt pins s σ H _ _ v u Q I rx ry ⟨i, j, rfl, rfl, out _ b⟩
      | _ => exact False.elim b
    | _ => exact False.elim b
  | le =>
    cases d with
    | int i =>
      cases e with
      | int j => cases relInt rd; cases relInt re; exact op_le pins s σ H _ _ v u Q I rx ry ⟨i, j, rfl, rfl, out _ b⟩
      | _ => exact False.elim b
    | _ => exact False.elim b
  | gt =>
    cases d with
    | int i =>
      cases e with
      | int j => cases relInt rd; cases relInt re; exact op_gt pins s σ H _ _ v u Q I rx ry ⟨i, j, rfl, rfl, out _ b⟩
      | _ => exact False.elim b
    | _ => exact False.elim b
  | ge =>
    cases d with
    | int i =>
      cases e with
      | int j => cases relInt rd; cases relInt re; exact op_ge pins s σ H _ _ v u Q I rx ry ⟨i, j, rfl, rfl, out _ b⟩
      | _ => exact False.elim b
    | _ => exact False.elim b
  | isin =>
    have gen : inQ h d e Qd → (∃ (c : Nat) (z : Str), x = .str ⟨#[c]⟩ ∧ y = .str z ∧ Q (.bl (decide (c ∈ z.cps.toList))) H) ∨ rIn X.K false x y H Q := fun b => by
      unfold inQ at b
      split at b
      · left
        cases relStr rd; cases relStr re
        exact ⟨_, _, rfl, rfl, out _ (by simpa using b)⟩
      · exact .inr (viaIn false b)
    exact (op_in_sign.or op_in_seq) pins s σ H x y v u Q I rx ry (gen b)
  | notin =>
    have gen : inQ h d e (fun c => Qd (!c)) → (∃ (c : Nat) (z : Str), x = .str ⟨#[c]⟩ ∧ y = .str z ∧ Q (.bl (!decide (c ∈ z.cps.toList))) H) ∨ rIn X.K true x y H Q := fun b => by
      unfold inQ at b
      split at b
      · left
        cases relStr rd; cases relStr re
        exact ⟨_, _, rfl, rfl, out _ (by simpa using b)⟩
      · exact .inr (viaIn true b)
    exact (op_notIn_sign.or op_notIn_seq) pins s σ H x y v u Q I rx ry (gen b)
  | is =>
    cases e with
    | non =>
      cases relNon re
      refine op_isN pins s σ H _ _ v u Q I rx ry ⟨rfl, ?_⟩
      have b' : Qd (noneD d) := b
      rw [noneD_ok rd]
      exact out _ b'
    | bl c =>
      cases d with
      | bl a =>
        cases relBl rd; cases relBl re
        have b' : Qd (a == c) := b
        refine op_isBl pins s σ H _ _ v u Q I rx ry ⟨a, c, rfl, rfl, ?_⟩
        rw [Bool.beq_eq_decide_eq] at b'
        exact out _ b'
      | _ => exact False.elim b
    | _ => exact False.elim b
  | isnot =>
    cases e with
    | non =>
      cases relNon re
      refine op_notN pins s σ H _ _ v u Q I rx ry ⟨rfl, ?_⟩
      have b' : Qd (!(noneD d)) := b
      rw [noneD_ok rd]
      exact out _ b'
    | bl c =>
      cases d with
      | bl a =>
        cases relBl rd; cases relBl re
        have b' : Qd (!(a == c)) := b
        refine op_notBl pins s σ H _ _ v u Q I rx ry ⟨a, c, rfl, rfl, ?_⟩
        rw [Bool.beq_eq_decide_eq] at b'
        exact out _ b'
      | _ => exact False.elim b
    | _ => exact False.elim b
end
end Lit
namespace Lit
open PySem PySem.Spec PyProof.Rows L2

section
variable {K : PySem.W.Frag} {H : Hp} {h : PH} {Qd : D → PH → Prop} {Q : VK} {d e : D} {x y : V} {ds : List D}
/-! ### truth -/
theorem empty_ok {vs : List V} (r : RelDs K H ds vs) : (!vs.isEmpty) = (!ds.isEmpty) := by
  cases ds with
  | nil => simp only [RelDs] at r; subst r; rfl
  | cons d ds => simp only [RelDs] at r; obtain ⟨v, w, rfl, _⟩ := r; rfl
theorem tru_is (rh : RelH K H h) (rd : RelD K H d x) {P : Bool → Prop} (q : truQ h d P) : ∃ k, TruV K x H k ∧ P k := by
  cases d with
  | non => cases relNon rd; exact ⟨false, rfl, q⟩
  | bl b => cases relBl rd; exact ⟨b, rfl, q⟩
  | int i =>
    cases relInt rd
    have q' : P (decide (i ≠ 0)) := q
    refine ⟨_, rfl, ?_⟩
    have z : (i != 0) = decide (i ≠ 0) := by
      by_cases e : i = 0
      · subst e; rfl
      · rw [decide_eq_true e]
        exact bne_iff_ne.mpr e
    rw [z]
    exact q'
  | str s =>
    cases relStr rd
    obtain ⟨q1, q2⟩ := (show s.length ≤ sizeLine ∧ P (!s.isEmpty) from q)
    refine ⟨_, ⟨by rw [mkS_len]; exact q1, rfl⟩, ?_⟩
    rw [mkS_len]
    cases s with
    | nil => exact q2
    | cons a r => exact q2
  | ref a =>
    have q' : (match rdQ h (.ref a) with
      | some ds => P (!ds.isEmpty)
      | none => False) := q
    cases e1 : rdQ h (.ref a) with
    | none => rw [e1] at q'; exact q'.elim
    | some ds =>
      rw [e1] at q'
      obtain ⟨b, vs, rfl, hs, rv⟩ := rdQ_ok rh rd e1
      rcases hs with hs | hs
      · exact ⟨_, .inl ⟨vs, hs, rfl⟩, by rw [empty_ok rv]; exact q'⟩
      · exact ⟨_, .inr (.inl ⟨vs, hs, rfl⟩), by rw [empty_ok rv]; exact q'⟩
  | tup es =>
    obtain ⟨b, vs, rfl, hs, rv⟩ := relTup rd
    exact ⟨_, .inr (.inl ⟨vs, hs, rfl⟩), by rw [empty_ok rv]; exact q⟩
  | rol es =>
    obtain ⟨b, vs, rfl, hs, rv⟩ := rdL_ok (ds := es) rh rd rfl
    exact ⟨_, .inl ⟨vs, hs, rfl⟩, by rw [empty_ok rv]; exact q⟩

/-! ### what lists hold -/
theorem ints_ok : ∀ {ds : List D} {ns : List Int} {vs : List V}, intsOf ds = some ns → RelDs K H ds vs → vs = ns.map V.int
  | [], ns, vs, e, r => by
    cases e
    simp only [RelDs] at r
    subst r
    rfl
  | .int i :: ds, ns, vs, e, r => by
    have e' : (intsOf ds).map (i :: ·) = some ns := e
    simp only [RelDs] at r
    obtain ⟨v, w, rfl, r1, r2⟩ := r
    cases e1 : intsOf ds with
    | none => rw [e1] at e'; cases e'
    | some ms =>
      rw [e1] at e'
      cases e'
      cases relInt r1
      rw [ints_ok e1 r2]
      rfl
  | .non :: _, _, _, e, _ => by cases e
  | .bl _ :: _, _, _, e, _ => by cases e
  | .str _ :: _, _, _, e, _ => by cases e
  | .ref _ :: _, _, _, e, _ => by cases e
  | .tup _ :: _, _, _, e, _ => by cases e
  | .rol _ :: _, _, _, e, _ => by cases e
theorem bls_ok : ∀ {ds : List D} {ns : List Bool} {vs : List V}, blsOf ds = some ns → RelDs K H ds vs → vs = ns.map V.bl
  | [], ns, vs, e, r => by
    cases e
    simp only [RelDs] at r
    subst r
    rfl
  | .bl i :: ds, ns, vs, e, r => by
    have e' : (blsOf ds).map (i :: ·) = some ns := e
    simp only [RelDs] at r
    obtain ⟨v, w, rfl, r1, r2⟩ := r
    cases e1 : blsOf ds with
    | none => rw [e1] at e'; cases e'
    | some ms =>
      rw [e1] at e'
      cases e'
      cases relBl r1
      rw [bls_ok e1 r2]
      rfl
  | .non :: _, _, _, e, _ => by cases e
  | .int _ :: _, _, _, e, _ => by cases e
  | .str _ :: _, _, _, e, _ => by cases e
  | .ref _ :: _, _, _, e, _ => by cases e
  | .tup _ :: _, _, _, e, _ => by cases e
  | .rol _ :: _, _, _, e, _ => by cases e
theorem strs_ok : ∀ {ds : List D} {ns : List (List Nat)} {vs : List V}, strsOf ds = some ns → RelDs K H ds vs → vs = (ns.map mkS).map V.str
  | [], ns, vs, e, r => by
    cases e
    simp only [RelDs] at r
    subst r
    rfl
  | .str i :: ds, ns, vs, e, r => by
    have e' : (strsOf ds).map (i :: ·) = some ns := e
    simp only [RelDs] at r
    obtain ⟨v, w, rfl, r1, r2⟩ := r
    cases e1 : strsOf ds with
    | none => rw [e1] at e'; cases e'
    | some ms =>
      rw [e1] at e'
      cases e'
      cases relStr r1
      rw [strs_ok e1 r2]
      rfl
  | .non :: _, _, _, e, _ => by cases e
  | .int _ :: _, _, _, e, _ => by cases e
  | .bl _ :: _, _, _, e, _ => by cases e
  | .ref _ :: _, _, _, e, _ => by cases e
  | .tup _ :: _, _, _, e, _ => by cases e
  | .rol _ :: _, _, _, e, _ => by cases e
theorem RelDs.strs : ∀ (ss : List Str), RelDs K H (ss.map fun z => D.str z.cps.toList) (ss.map V.str)
  | [] => .nil
  | s :: ss => .cons (by show _ = V.str (mkS s.cps.toList); rw [mkS_of]) (RelDs.strs ss)
theorem maxI_mem : ∀ (ns : List Int) (m : Int), maxI m ns ∈ m :: ns
  | [], m => by simp [maxI]
  | i :: r, m => by
    unfold maxI
    by_cases c : m < i
    · rw [if_pos c]
      have q := maxI_mem r i
      rcases List.mem_cons.mp q with q | q
      · rw [q]; simp
      · simp [q]
    · rw [if_neg c]
      have q := maxI_mem r m
      rcases List.mem_cons.mp q with q | q
      · rw [q]; simp
      · simp [q]
theorem maxI_ge : ∀ (ns : List Int) (m y : Int), y ∈ m :: ns → y ≤ maxI m ns
  | [], m, y, q => by
    have q' : y = m := by simpa using q
    rw [q']
    exact Int.le_refl _
  | i :: r, m, y, q => by
    unfold maxI
    by_cases c : m < i
    · rw [if_pos c]
      have t := maxI_ge r i i (by simp)
      rcases List.mem_cons.mp q with q | q
      · omega
      · exact maxI_ge r i y q
    · rw [if_neg c]
      have t := maxI_ge r m m (by simp)
      rcases List.mem_cons.mp q with q | q
      · omega
      · rcases List.mem_cons.mp q with q | q
        · omega
        · exact maxI_ge r m y (by simp [q])
theorem minI_mem : ∀ (ns : List Int) (m : Int), minI m ns ∈ m :: ns
  | [], m => by simp [minI]
  | i :: r, m => by
    unfold minI
    by_cases c : i < m
    · rw [if_pos c]
      have q := minI_mem r i
      rcases List.mem_cons.mp q with q | q
      · rw [q]; simp
      · simp [q]
    · rw [if_neg c]
      have q := minI_mem r m
      rcases List.mem_cons.mp q with q | q
      · rw [q]; simp
      · simp [q]
theorem minI_le : ∀ (ns : List Int) (m y : Int), y ∈ m :: ns → minI m ns ≤ y
  | [], m, y, q => by
    have q' : y = m := by simpa using q
    rw [q']
    exact Int.le_refl _
  | i :: r, m, y, q => by
    unfold minI
    by_cases c : i < m
    · rw [if_pos c]
      have t := minI_le r i i (by simp)
      rcases List.mem_cons.mp q with q | q
      · omega
      · exact minI_le r i y q
    · rw [if_neg c]
      have t := minI_le r m m (by simp)
      rcases List.mem_cons.mp q with q | q
      · omega
      · rcases List.mem_cons.mp q with q | q
        · omega
        · exact minI_le r m y (by simp [q])
end

/-! ### subscripts and cuts -/
section
variable {X : Cx}
theorem ix_dict (hu : X.A.units + 1 < cLine) : IxR X (fun x y H Q => ∃ a v, x = .ref a ∧ DGet H a y (some v) ∧ Q v H) := by
  intro value slice pins s σ H x y vv u Q I rx ry hq hs
  obtain ⟨a, w, rfl, g, q⟩ := hq
  obtain rfl : vv = Value.ref a := rx
  exact PyProof.Rows.tail_any (dict_typeIs I g) PySem.F.slot_dict_getitem.lookup (d_getItem hu I g ry fun w' s3 I3 rw' => ⟨w, H, I3, rw', q⟩) hs
theorem set_dict (hu : X.A.units + 1 < cLine) : PSet X (fun o i v H Q => ∃ a H', o = .ref a ∧ DPut H a i v H' ∧ Q H') := by
  intro pins s σ H o i vv ov iv u Q I ro ri rv hq
  obtain ⟨a, H', rfl, g, q⟩ := hq
  obtain rfl : ov = Value.ref a := ro
  exact d_setItem hu I g ri rv fun s4 I4 => ⟨H', I4, q⟩
theorem PSet.or {t t' : TSet} (h : PSet X t) (h' : PSet X t') : PSet X (fun o i v H Q => t o i v H Q ∨ t' o i v H Q) := by
  intro pins s σ H o i vv ov iv u Q I ro ri rv hq
  rcases hq with hq | hq
  · exact h pins s σ H o i vv ov iv u Q I ro ri rv hq
  · exact h' pins s σ H o i vv ov iv u Q I ro ri rv hq
end
section
variable {K : PySem.W.Frag} {H : Hp} {h : PH}
theorem atI_ok {ds : List D} {vs : List V} (r : RelDs K H ds vs) {i : Int} {d : D} (e : atI ds i = some d) : ∃ v, atI vs i = some v ∧ RelD K H d v := by
  unfold atI at e ⊢
  rw [r.len]
  cases e1 : ixN ds.length i with
  | none => rw [e1] at e; cases e
  | some j =>
    rw [e1] at e
    exact r.get' j d e
theorem keyD_kV {k : D} {kk : Key} (e : keyD k = some kk) {v : V} (r : RelD K H k v) : v = kV kk := by
  cases k with
  | int i => cases e; exact relInt r
  | str s => cases e; exact relStr r
  | _ => cases e
theorem eqF_key {a k : D} {ka kk : Key} (e : keyD a = some ka) (f : keyD k = some kk) : eqF a k = decide (ka = kk) := by
  cases a with
  | int i =>
    cases e
    cases k with
    | int j =>
      cases f
      show decide (i = j) = _
      exact decide_eq_decide.mpr ⟨fun q => by rw [q], fun q => Sum.inl.inj q⟩
    | str t => cases f; exact (decide_eq_false (fun q => nomatch q)).symm
    | _ => cases f
  | str s =>
    cases e
    cases k with
    | int j => cases f; exact (decide_eq_false (fun q => nomatch q)).symm
    | str t =>
      cases f
      show decide (s = t) = _
      exact decide_eq_decide.mpr ⟨fun q => by rw [q], fun q => mkS_inj.mp (Sum.inr.inj q)⟩
    | _ => cases f
  | _ => cases e
theorem eqK_key {a k : D} {ka kk : Key} (e : keyD a = some ka) (f : keyD k = some kk) : eqK a k = decide (ka = kk) := by
  rw [← eqF_key e f]
  cases a with
  | tup _ => cases e
  | _ => rfl
theorem eqFs_keys : ∀ {as bs : List D} {ka kb : List Key}, keysD as = some ka → keysD bs = some kb → eqFs as bs = decide (ka = kb)
  | [], [], _, _, e, f => by cases e; cases f; rfl
  | [], b :: bs, _, kb, e, f => by
    cases e
    have f' : (match keyD b, keysD bs with
      | some k, some ks => some (k :: ks)
      | _, _ => none) = some kb := f
    cases e1 : keyD b with
    | none => rw [e1] at f'; cases f'
    | some k =>
      cases e2 : keysD bs with
      | none => rw [e1, e2] at f'; cases f'
      | some ks => rw [e1, e2] at f'; cases f'; rfl
  | a :: as, [], ka, _, e, f => by
    cases f
    have f' : (match keyD a, keysD as with
      | some k, some ks => some (k :: ks)
      | _, _ => none) = some ka := e
    cases e1 : keyD a with
    | none => rw [e1] at f'; cases f'
    | some k =>
      cases e2 : keysD as with
      | none => rw [e1, e2] at f'; cases f'
      | some ks => rw [e1, e2] at f'; cases f'; rfl
  | a :: as, b :: bs, ka, kb, e, f => by
    have e' : (match keyD a, keysD as with
      | some k, some ks => some (k :: ks)
      | _, _ => none) = some ka := e
    have f' : (match keyD b, keysD bs with
      | some k, some ks => some (k :: ks)
      | _, _ => none) = some kb := f
    cases e1 : keyD a with
    | none => rw [e1] at e'; cases e'
    | some k =>
      cases e2 : keysD as with
      | none => rw [e1, e2] at e'; cases e'
      | some ks =>
        cases f1 : keyD b with
        | none => rw [f1] at f'; cases f'
        | some l =>
          cases f2 : keysD bs with
          | none => rw [f1, f2] at f'; cases f'
          | some ls =>
            rw [e1, e2] at e'
            rw [f1, f2] at f'
            cases e'
            cases f'
            show (eqF a b && eqFs as bs) = _
            rw [eqF_key e1 f1, eqFs_keys e2 f2]
            by_cases c : k = l
            · by_cases c2 : ks = ls
              · simp [c, c2]
              · simp [c, c2]
            · simp [c]
theorem keysD_kV : ∀ {ks : List D} {kk : List Key} {vs : List V}, keysD ks = some kk → RelDs K H ks vs → vs = kk.map kV
  | [], _, _, e, r => by
    cases e
    simp only [RelDs] at r
    subst r
    rfl
  | k :: ks, kk, _, e, r => by
    have e' : (match keyD k, keysD ks with
      | some k, some ks => some (k :: ks)
      | _, _ => none) = some kk := e
    simp only [RelDs] at r
    obtain ⟨v, w, rfl, r1, r2⟩ := r
    cases e1 : keyD k with
    | none => rw [e1] at e'; cases e'
    | some l =>
      cases e2 : keysD ks with
      | none => rw [e1, e2] at e'; cases e'
      | some ls =>
        rw [e1, e2] at e'
        cases e'
        rw [keyD_kV e1 r1, keysD_kV e2 r2]
        rfl
theorem keysD_some : ∀ {ds : List D}, (ds.all fun d => match d with
    | .int _ => true
    | .str _ => true
    | _ => false) = true → ∃ kk, keysD ds = some kk
  | [], _ => ⟨[], rfl⟩
  | d :: ds, e => by
    rw [List.all_cons] at e
    obtain ⟨e1, e2⟩ := Bool.and_eq_true_iff.mp e
    obtain ⟨ls, hl⟩ := keysD_some e2
    cases d with
    | int i => exact ⟨.inl i :: ls, by simp only [keysD, keyD, hl]⟩
    | str i => exact ⟨.inr (mkS i) :: ls, by simp only [keysD, keyD, hl]⟩
    | _ => cases e1
/-- a key is a flat one, or a tuple of these -/
theorem keyOk_cases {k : D} (e : keyOk k = true) : (∃ kk, keyD k = some kk) ∨ ∃ ps kk, k = .tup ps ∧ keysD ps = some kk := by
  cases k with
  | int i => exact .inl ⟨_, rfl⟩
  | str i => exact .inl ⟨_, rfl⟩
  | tup ds =>
    unfold keyOk at e
    obtain ⟨kk, z⟩ := keysD_some (Bool.and_eq_true_iff.mp e).1
    exact .inr ⟨ds, kk, rfl, z⟩
  | _ => cases e
section
variable {κ : Type} [DecidableEq κ] (isK : D → κ → Prop) (h2 : ∀ a k ka kk, isK a ka → isK k kk → eqK a k = decide (ka = kk))
/-- both sorts of dicts -/
def RelKv (K : PySem.W.Frag) (H : Hp) : List (D × D) → List (κ × V) → Prop
  | [], vs => vs = []
  | (k, d) :: ds, vs => ∃ kk v r, vs = (kk, v) :: r ∧ isK k kk ∧ RelD K H d v ∧ RelKv K H ds r
variable {isK}
include h2
theorem getD_gen {k : D} {kk : κ} (f : isK k kk) : ∀ {kvs : List (D × D)} {ps : List (κ × V)} {d : D}, RelKv isK K H kvs ps → getD? k kvs = some d → ∃ v, valV ps kk = some v ∧ RelD K H d v
  | [], _, _, _, e => by cases e
  | (a, w) :: r, ps, d, q, e => by
    obtain ⟨ka, v, rr, rfl, e1, e2, e3⟩ := q
    have e' : (if eqK a k = true then some w else getD? k r) = some d := e
    rw [h2 _ _ _ _ e1 f] at e'
    by_cases c : ka = kk
    · rw [if_pos (decide_eq_true c)] at e'
      cases e'
      exact ⟨v, valV_pos c, e2⟩
    · rw [if_neg (by simpa using c)] at e'
      obtain ⟨w', h1, h2⟩ := getD_gen f e3 e'
      exact ⟨w', by rw [valV_neg c]; exact h1, h2⟩
theorem getD_none {k : D} {kk : κ} (f : isK k kk) : ∀ {kvs : List (D × D)} {ps : List (κ × V)}, RelKv isK K H kvs ps → getD? k kvs = none → valV ps kk = none
  | [], ps, q, _ => by
    have q' : ps = [] := q
    rw [q']
    rfl
  | (a, w) :: r, ps, q, e => by
    obtain ⟨ka, v, rr, rfl, e1, e2, e3⟩ := q
    have e' : (if eqK a k = true then some w else getD? k r) = none := e
    rw [h2 _ _ _ _ e1 f] at e'
    by_cases c : ka = kk
    · rw [if_pos (decide_eq_true c)] at e'
      cases e'
    · rw [if_neg (by simpa using c)] at e'
      rw [valV_neg c]
      exact getD_none f e3 e'
theorem RelKv.any {k : D} {kk : κ} (f : isK k kk) : ∀ {kvs : List (D × D)} {ps : List (κ × V)}, RelKv isK K H kvs ps → (ps.any fun kv => decide (kv.1 = kk)) = kvs.any fun p => eqK p.1 k
  | [], ps, q => by
    have q' : ps = [] := q
    rw [q']
    rfl
  | (a, w) :: r, ps, q => by
    obtain ⟨ka, u, rr, rfl, e1, e2, e3⟩ := q
    rw [List.any_cons, List.any_cons, RelKv.any f e3, h2 _ _ _ _ e1 f]
theorem RelKv.maps {k v : D} {kk : κ} {vv : V} (f : isK k kk) (rv : RelD K H v vv) : ∀ {kvs : List (D × D)} {ps : List (κ × V)}, RelKv isK K H kvs ps →
    RelKv isK K H (kvs.map fun p => if eqK p.1 k = true then (p.1, v) else p) (ps.map fun kv => if kv.1 = kk then (kv.1, vv) else kv)
  | [], ps, q => by
    have q' : ps = [] := q
    rw [q']
    rfl
  | (a, w) :: r, ps, q => by
    obtain ⟨ka, u, rr, rfl, e1, e2, e3⟩ := q
    rw [List.map_cons, List.map_cons]
    have ih := RelKv.maps f rv e3
    rw [h2 _ _ _ _ e1 f]
    by_cases c : ka = kk
    · rw [if_pos (decide_eq_true c), if_pos c]
      exact ⟨ka, vv, _, rfl, e1, rv, ih⟩
    · rw [if_neg (by simpa using c), if_neg c]
      exact ⟨ka, u, _, rfl, e1, e2, ih⟩
omit h2 in
theorem RelKv.snoc {k v : D} {kk : κ} {vv : V} (f : isK k kk) (rv : RelD K H v vv) : ∀ {kvs : List (D × D)} {ps : List (κ × V)}, RelKv isK K H kvs ps → RelKv isK K H (kvs ++ [(k, v)]) (ps ++ [(kk, vv)])
  | [], ps, q => by
    have q' : ps = [] := q
    rw [q']
    exact ⟨kk, vv, [], rfl, f, rv, rfl⟩
  | (a, w) :: r, ps, q => by
    obtain ⟨ka, u, rr, rfl, e1, e2, e3⟩ := q
    exact ⟨ka, u, rr ++ [(kk, vv)], rfl, e1, e2, RelKv.snoc f rv e3⟩
theorem setKV_gen {k v : D} {kk : κ} {vv : V} (f : isK k kk) (rv : RelD K H v vv) {kvs : List (D × D)} {ps : List (κ × V)} (q : RelKv isK K H kvs ps) : RelKv isK K H (setKV k v kvs) (putK ps kk vv) := by
  unfold setKV putK
  rw [q.any h2 f]
  by_cases c : (kvs.any fun p => eqK p.1 k) = true
  · rw [if_pos c, if_pos c]
    exact q.maps h2 f rv
  · rw [if_neg c, if_neg c]
    exact q.snoc f rv
omit h2 in
theorem RelKv.len : ∀ {kvs : List (D × D)} {ps : List (κ × V)}, RelKv isK K H kvs ps → ps.length = kvs.length
  | [], ps, e => by
    have e' : ps = [] := e
    rw [e']
    rfl
  | (_, _) :: r, _, ⟨_, _, rr, e, _, _, e3⟩ => by
    rw [e]
    simp [RelKv.len e3]
end
abbrev isKD : D → Key → Prop := fun k kk => keyD k = some kk
abbrev isKT : D → List Key → Prop := fun k kk => ∃ ps, k = .tup ps ∧ keysD ps = some kk
theorem kd2 : ∀ (a k : D) (ka kk : Key), isKD a ka → isKD k kk → eqK a k = decide (ka = kk) := fun _ _ _ _ e f => eqK_key e f
theorem kt2 : ∀ (a k : D) (ka kk : List Key), isKT a ka → isKT k kk → eqK a k = decide (ka = kk) := fun _ _ _ _ ⟨_, e1, e⟩ ⟨_, f1, f⟩ => by
  rw [e1, f1]
  exact eqFs_keys e f
theorem relK_gen : ∀ {kvs : List (D × D)} {ps : List (Key × V)}, RelK K H kvs ps ↔ RelKv isKD K H kvs ps
  | [], ps => Iff.rfl
  | (k, d) :: r, ps => ⟨fun ⟨kk, v, rr, a, b, c, e⟩ => ⟨kk, v, rr, a, b, c, relK_gen.mp e⟩, fun ⟨kk, v, rr, a, b, c, e⟩ => ⟨kk, v, rr, a, b, c, relK_gen.mpr e⟩⟩
theorem relKT_gen : ∀ {kvs : List (D × D)} {ps : List (List Key × V)}, RelKT K H kvs ps ↔ RelKv isKT K H kvs ps
  | [], ps => Iff.rfl
  | (k, d) :: r, ps => ⟨fun ⟨pp, kk, v, rr, a, b, b2, c, e⟩ => ⟨kk, v, rr, a, ⟨pp, b, b2⟩, c, relKT_gen.mp e⟩, fun ⟨kk, v, rr, a, ⟨pp, b, b2⟩, c, e⟩ => ⟨pp, kk, v, rr, a, b, b2, c, relKT_gen.mpr e⟩⟩
theorem flat_notT {k : D} {kk : Key} (e : keyD k = some kk) {as : List D} : eqK (.tup as) k = false := by
  cases k with
  | tup _ => cases e
  | _ => rfl
theorem tup_notF {a : D} {ka : Key} (e : keyD a = some ka) {as : List D} : eqK a (.tup as) = false := by
  cases a with
  | tup _ => cases e
  | _ => rfl
theorem getD_mixT {k : D} {kk : Key} (f : keyD k = some kk) : ∀ {kvs : List (D × D)} {ps : List (List Key × V)}, RelKT K H kvs ps → getD? k kvs = none
  | [], _, _ => rfl
  | (a, w) :: r, ps, ⟨pp, ka, v, rr, _, e1, _, _, e3⟩ => by
    subst e1
    show (if eqK (.tup pp) k = true then some w else getD? k r) = none
    rw [flat_notT f, if_neg Bool.false_ne_true]
    exact getD_mixT f e3
theorem getD_mixK {as : List D} : ∀ {kvs : List (D × D)} {ps : List (Key × V)}, RelK K H kvs ps → getD? (.tup as) kvs = none
  | [], _, _ => rfl
  | (a, w) :: r, ps, ⟨ka, v, rr, _, e1, _, e3⟩ => by
    show (if eqK a (.tup as) = true then some w else getD? (.tup as) r) = none
    rw [tup_notF e1, if_neg Bool.false_ne_true]
    exact getD_mixK e3
/-- what a told dict holds at a key -/
theorem dget_ok (rh : RelH K H h) {a : Addr} {kvs : List (D × D)} (ha : h a = some (.dct kvs)) {k : D} (ok : keyOk k = true) {y : V} (ry : RelD K H k y) {d : D} (e : getD? k kvs = some d) : ∃ v, DGet H a y (some v) ∧ RelD K H d v := by
  rcases keyOk_cases ok with ⟨kk, f⟩ | ⟨ps, kk, rfl, f⟩
  · rcases rh a _ ha with ⟨ps, hp, rk⟩ | ⟨ps, hp, rk⟩
    · obtain ⟨v, hv, rv⟩ := getD_gen kd2 f (relK_gen.mp rk) e
      have g := DGet.k (k := kk) hp
      rw [hv] at g
      rw [keyD_kV f ry]
      exact ⟨v, g, rv⟩
    · rw [getD_mixT f rk] at e
      cases e
  · rcases rh a _ ha with ⟨qs, hp, rk⟩ | ⟨qs, hp, rk⟩
    · rw [getD_mixK rk] at e
      cases e
    · obtain ⟨v, hv, rv⟩ := getD_gen kt2 ⟨ps, rfl, f⟩ (relKT_gen.mp rk) e
      obtain ⟨b, vs, rfl, hb, rs⟩ := relTupK ry ok
      rw [keysD_kV f rs] at hb
      have g := DGet.t (k := kk) hp hb
      rw [hv] at g
      exact ⟨v, g, rv⟩
end

/-! ### o[i], o[i] = v, cuts -/
section
variable {X : Cx}
theorem ix_any (hu : X.A.units + 64 < cLine) : IxR X (rOp X.K ixD) := by
  intro value slice pins s σ H x y v u Q I rx ry hq hs
  obtain ⟨d, e, h, Qd, rd, re, rh, b, out⟩ := hq
  have hu1 : X.A.units + 1 < cLine := by omega
  refine (ix_seq.or (ix_dict hu1)) value slice pins s σ H x y v u Q I rx ry ?_ hs
  have seq : ∀ (i : Int) (ds : List D) (a : Addr) (vs : List V), e = .int i → x = .ref a → (SqL X.K H a vs ∨ SqT X.K H a vs) → RelDs X.K H ds vs → (match atI ds i with
        | some z => Qd z h
        | none => False) → rIx X.K x y H Q := fun i ds a vs ei ex hsq rv bb => by
    subst ei ex
    cases e2 : atI ds i with
    | none => rw [e2] at bb; exact bb.elim
    | some z =>
      rw [e2] at bb
      obtain ⟨w, hw, rw'⟩ := atI_ok rv e2
      cases relInt re
      rcases hsq with hsq | hsq
      · exact .inl ⟨a, vs, i, w, rfl, rfl, hsq, hw, out.at rh bb rw'⟩
      · exact .inr (.inl ⟨a, vs, i, w, rfl, rfl, hsq, hw, out.at rh bb rw'⟩)
  cases d with
  | str z =>
    cases e with
    | int i =>
      left
      obtain ⟨hz, b⟩ := (show z.length ≤ sizeLine ∧ (match atI z i with
        | some c => Qd (.str [c]) h
        | none => False) from b)
      cases relStr rd; cases relInt re
      cases e2 : atI z i with
      | none => rw [e2] at b; exact b.elim
      | some c =>
        rw [e2] at b
        exact .inr (.inr ⟨mkS z, i, c, rfl, rfl, by rw [mkS_len]; exact hz, by simpa using e2, out.str rh b⟩)
    | _ => exact False.elim b
  | tup ds =>
    cases e with
    | int i =>
      obtain ⟨a, vs, ex, ht, rv⟩ := relTup rd
      exact .inl (seq i ds a vs rfl ex (.inr ht) rv b)
    | _ => exact False.elim b
  | rol ds =>
    cases e with
    | int i =>
      obtain ⟨a, vs, ex, ht, rv⟩ := rdL_ok (ds := ds) rh rd rfl
      exact .inl (seq i ds a vs rfl ex (.inl ht) rv b)
    | _ => exact False.elim b
  | ref a =>
    have b2 : (match h a with
      | some (.lst ds) => match e with
        | .int i => match atI ds i with
          | some d => Qd d h
          | none => False
        | _ => False
      | some (.dct kvs) => keyOk e = true ∧ match getD? e kvs with
        | some v => Qd v h
        | none => False
      | _ => False) := by cases e <;> exact b
    cases relRef rd
    cases ho : h a with
    | none => rw [ho] at b2; exact b2.elim
    | some o =>
      rw [ho] at b2
      cases o with
      | lst ds =>
        obtain ⟨vs, hv, rv⟩ := rh a _ ho
        cases e with
        | int i => exact .inl (seq i ds a vs rfl rfl (.inl (.of hv)) rv b2)
        | _ => exact False.elim b2
      | dct kvs =>
        right
        obtain ⟨ok, b2⟩ := b2
        cases e2 : getD? e kvs with
        | none => rw [e2] at b2; exact b2.elim
        | some z =>
          rw [e2] at b2
          obtain ⟨w, g, rw'⟩ := dget_ok rh ho ok re e2
          exact ⟨a, w, rfl, g, out.at rh b2 rw'⟩
      | _ => exact False.elim b2
  | non => cases e <;> exact False.elim b
  | bl _ => cases e <;> exact False.elim b
  | int _ => cases e <;> exact False.elim b

def rSet (K : PySem.W.Frag) : TSet := fun o i v H Q => ∃ d e w h Qd, RelD K H d o ∧ RelD K H e i ∧ RelD K H w v ∧ RelH K H h ∧ setD d e w h Qd ∧ ∀ h' H', Qd h' → RelH K H' h' → Frm H h H' h' → Q H'
theorem set_any (hu : X.A.units + 64 < cLine) : PSet X (rSet X.K) := by
  intro pins s σ H o i v ov iv u Q I ro ri rv hq
  obtain ⟨d, e, w, h, Qd, rd, re, rw', rh, b, out⟩ := hq
  have hu1 : X.A.units + 1 < cLine := by omega
  have go : ∀ H2, Inv X pins σ H2 s → _ → _ := fun H2 I2 q => (PSet.or set_list (set_dict hu1)) pins s σ H2 o i v ov iv u Q I2 ro ri rv q
  cases d with
  | ref a =>
    cases relRef rd
    cases ho : h a with
    | none => simp only [setD, ho] at b
    | some oo =>
      have nt := rh.noT ho
      have b2 := b
      simp only [setD, ho] at b2
      cases oo with
      | lst ds =>
        obtain ⟨vs, hv, rvs⟩ := rh a _ ho
        cases e with
        | int k =>
          cases e1 : ixN ds.length k with
          | none =>
            have b3 : (match ixN ds.length k with
              | some j => put a (.lst (ds.set j w)) h Qd
              | none => False) := b2
            rw [e1] at b3; exact b3.elim
          | some j =>
            have b3 : (match ixN ds.length k with
              | some j => put a (.lst (ds.set j w)) h Qd
              | none => False) := b2
            rw [e1] at b3
            cases relInt re
            refine go H I (.inl ⟨a, vs, k, j, rfl, rfl, hv, by rw [rvs.len]; exact e1, ?_⟩)
            obtain ⟨h', q1, q2, q3⟩ := put_ok (u := .lst (vs.set j v)) rh ho b3 ⟨_, upd_same, (rvs.set j rw').keep (Stay.upd.keeps nt)⟩
            exact out h' _ q1 q2 q3
        | _ => exact False.elim b2
      | dct kvs =>
        obtain ⟨hl, ok, lk, b2⟩ := b2
        have conv : ∀ (u0 w0 : HO), H a = some w0 → RelO X.K (upd H a u0) a (.dct kvs) → RelH X.K (upd H a u0) h ∧ Frm H h (upd H a u0) h ∧ Keeps H (upd H a u0) := fun u0 w0 e0 r0 =>
          ⟨fun b ob e => by
            by_cases hb : b = a
            · subst hb
              rw [ho] at e
              cases e
              exact r0
            · exact RelO.keep (K := X.K) (a := b) (Stay.upd.keeps nt) (fun w z => by rw [upd_ne hb]; exact z) (rh b ob e),
          fun b ob e n => by
            have hb : b ≠ a := fun z => by rw [z, ho] at n; cases n
            rw [upd_ne hb]
            exact ⟨e, n⟩, Stay.upd.keeps nt⟩
        have goK : ∀ (kk : Key) (ps : List (Key × V)) (H2 : Hp), keyD e = some kk → Inv X pins σ H2 s → RelH X.K H2 h → Frm H h H2 h → Keeps H H2 → H2 a = some (.dK ps) → RelK X.K H2 kvs ps → wpAny (model X.prog X.w) X.A (setItem ov iv u) (fun _ s' => ∃ H', Inv X pins σ H' s' ∧ Q H') X.xe s := fun kk ps H2 f I2 rh2 fr kp hp rk => by
          have nt2 := rh2.noT ho
          have rk' := setKV_gen kd2 f (rw'.keep kp) (relK_gen.mp rk)
          refine go H2 I2 (.inr ⟨a, upd H2 a (.dK (putK ps kk v)), rfl, ?_, ?_⟩)
          · rw [keyD_kV f re]
            exact DPut.k hp (by rw [(relK_gen.mp rk).len]; exact hl)
          · obtain ⟨h', q1, q2, q3⟩ := put_ok (u := .dK (putK ps kk v)) rh2 ho b2 (.inl ⟨_, upd_same, (relK_gen.mpr rk').keep (Stay.upd.keeps nt2)⟩)
            exact out h' _ q1 q2 (fr.trans q3)
        have goT : ∀ (qs : List D) (kk : List Key) (ps : List (List Key × V)) (H2 : Hp), e = .tup qs → keysD qs = some kk → Inv X pins σ H2 s → RelH X.K H2 h → Frm H h H2 h → Keeps H H2 → H2 a = some (.dT ps) → RelKT X.K H2 kvs ps → wpAny (model X.prog X.w) X.A (setItem ov iv u) (fun _ s' => ∃ H', Inv X pins σ H' s' ∧ Q H') X.xe s := fun qs kk ps H2 ee f I2 rh2 fr kp hp rk => by
          have nt2 := rh2.noT ho
          have rk' := setKV_gen kt2 ⟨qs, ee, f⟩ (rw'.keep kp) (relKT_gen.mp rk)
          have re2 := re.keep kp
          rw [ee] at re2
          obtain ⟨bb, vs, rfl, hb, rs⟩ := relTupK re2 (by rw [← ee]; exact ok)
          rw [keysD_kV f rs] at hb
          refine go H2 I2 (.inr ⟨a, upd H2 a (.dT (putK ps kk v)), rfl, DPut.t hp hb (by rw [(relKT_gen.mp rk).len]; exact hl), ?_⟩)
          obtain ⟨h', q1, q2, q3⟩ := put_ok (u := .dT (putK ps kk v)) rh2 ho b2 (.inr ⟨_, upd_same, (relKT_gen.mpr rk').keep (Stay.upd.keeps nt2)⟩)
          exact out h' _ q1 q2 (fr.trans q3)

        rcases keyOk_cases ok with ⟨kk, f⟩ | ⟨qs, kk, ee, f⟩
        · rcases rh a _ ho with ⟨ps, hp, rk⟩ | ⟨ps, hp, rk⟩
          · exact goK kk ps H f I rh .refl .refl hp rk
          · cases kvs with
            | nil =>
              cases (show ps = [] from rk)
              obtain ⟨c1, c2, c3⟩ := conv (.dK []) _ hp (.inl ⟨[], upd_same, rfl⟩)
              exact goK kk [] _ f (I.dTK hp) c1 c2 c3 upd_same rfl
            | cons p r =>
              exfalso
              obtain ⟨pp, _, _, _, _, e1, _⟩ := (show RelKT X.K H ((p.1, p.2) :: r) ps from rk)
              cases e with
              | tup _ => cases f
              | _ =>
                have lk' : (((match p.1 with
                  | .tup _ => false
                  | _ => true) && r.all fun p => match p.1 with
                  | .tup _ => false
                  | _ => true) : Bool) = true := lk
                rw [e1] at lk'
                cases lk'
        · subst ee
          rcases rh a _ ho with ⟨ps, hp, rk⟩ | ⟨ps, hp, rk⟩
          · cases kvs with
            | nil =>
              cases (show ps = [] from rk)
              obtain ⟨c1, c2, c3⟩ := conv (.dT []) _ hp (.inr ⟨[], upd_same, rfl⟩)
              exact goT qs kk [] _ rfl f (I.dKT hp) c1 c2 c3 upd_same rfl
            | cons p r =>
              exfalso
              obtain ⟨_, _, _, _, e1, _⟩ := (show RelK X.K H ((p.1, p.2) :: r) ps from rk)
              have lk' : (((match p.1 with
                | .tup _ => true
                | _ => false) && r.all fun p => match p.1 with
                | .tup _ => true
                | _ => false) : Bool) = true := lk
              obtain ⟨l1, _⟩ := Bool.and_eq_true_iff.mp lk'
              cases hp1 : p.1 with
              | tup _ => rw [hp1] at e1; cases e1
              | _ => rw [hp1] at l1; cases l1
          · exact goT qs kk ps H rfl f I rh .refl .refl hp rk
      | _ => exact False.elim b2
  | _ => exact False.elim b

/-- o[lo:hi] -/
def rSl (K : PySem.W.Frag) (fz : Bool) : V → Option Int → Option Int → Hp → VK → Prop := fun x lo hi H Q => ∃ d h Qd, RelD K H d x ∧ RelH K H h ∧ slD fz d lo hi h Qd ∧ Out K H h Qd Q
end
end Lit
namespace Lit
open PySem PySem.Spec PyProof.Rows L2
section
variable {X : Cx}
theorem sl_any (fz : Bool) : L2.SlR X (rSl X.K fz) := by
  intro pins s σ H x v vl vu lo hi sl Q I rx hs pl pu hq
  obtain ⟨d, h, Qd, rd, rh, b, out⟩ := hq
  have viaL : ∀ ds, rdL h d = some ds → newL fz (cutL ds lo hi) h Qd → rSlL X.K x lo hi H (frQ Q) := fun ds e1 bb => by
    obtain ⟨a, vs, rfl, hsq, rv⟩ := rdL_ok rh rd e1
    exact ⟨a, vs, rfl, hsq, fun p hp => out.newL rh hp bb (rv.cut lo hi)⟩
  refine (sl_str.or (sl_tupA.or sl_list)).fr pins s σ H x v vl vu lo hi sl Q I rx hs pl pu ?_
  cases d with
  | str z =>
    left
    obtain ⟨hz, bb⟩ := (show z.length ≤ sizeLine ∧ Qd (.str (cutL z lo hi)) h from b)
    cases relStr rd
    refine ⟨mkS z, rfl, by rw [mkS_len]; exact hz, .inl ?_⟩
    have e : cutS (mkS z) lo hi = mkS (cutL z lo hi) := by
      unfold cutS cutL
      rw [mkS_len]
    rw [e]
    exact out.str rh bb
  | tup ds =>
    right; left
    obtain ⟨a, vs, rfl, ht, rv⟩ := relTup rd
    have bb : Qd (.tup (cutL ds lo hi)) h := b
    refine ⟨a, vs, rfl, ht, fun ⟨e1, e2⟩ => .inl ?_, fun _ p hp => .inl (out.tup rh hp bb (rv.cut lo hi))⟩
    have e : cutL ds lo hi = ds := by
      unfold cutL
      rw [← rv.len, e1, e2, List.drop_zero, Nat.sub_zero, rv.len, List.take_length]
    rw [e] at bb
    exact out.at rh bb rd
  | ref a =>
    right; right
    cases e1 : rdL h (.ref a) with
    | none => simp only [slD, e1] at b
    | some ds =>
      simp only [slD, e1] at b
      exact viaL ds e1 b
  | rol es =>
    right; right
    exact viaL es rfl b
  | non => simp only [slD, rdL] at b
  | bl _ => simp only [slD, rdL] at b
  | int _ => simp only [slD, rdL] at b

/-! ### built-ins of one value -/
def rB1 (K : PySem.W.Frag) (f : B1) : List V → Hp → VK → Prop := fun xs H Q => ∃ x d h Qd, xs = [x] ∧ RelD K H d x ∧ RelH K H h ∧ b1D f d h Qd ∧ Out K H h Qd Q
theorem b1_len : CallR X (.builtin "len") (rB1 X.K .len) := by
  intro pins s σ H xs us Q I rs hq
  obtain ⟨x, d, h, Qd, rfl, rd, rh, b, out⟩ := hq
  refine (call_len_str.or (call_len_seq.or (call_lenD.or call_len_dT))) pins s σ H _ us Q I rs ?_
  cases d with
  | str z =>
    left
    obtain ⟨hz, bb⟩ := (show z.length ≤ sizeLine ∧ Qd (.int z.length) h from b)
    cases relStr rd
    refine ⟨mkS z, rfl, by rw [mkS_len]; exact hz, ?_⟩
    rw [mkS_len]
    exact out.int rh bb
  | tup ds =>
    right; left
    obtain ⟨a, vs, rfl, ht, rv⟩ := relTup rd
    refine ⟨a, vs, rfl, .inr ht, ?_⟩
    rw [rv.len]
    exact out.int rh b
  | rol ds =>
    right; left
    obtain ⟨a, vs, rfl, ht, rv⟩ := rdL_ok (ds := ds) rh rd rfl
    refine ⟨a, vs, rfl, .inl ht, ?_⟩
    rw [rv.len]
    exact out.int rh b
  | ref a =>
    right
    cases ho : h a with
    | none => simp only [b1D, rdQ, rdL, ho] at b
    | some o =>
      cases o with
      | lst ds =>
        left
        simp only [b1D, rdQ, rdL, ho] at b
        obtain ⟨vs, hv, rv⟩ := rh a _ ho
        cases relRef rd
        refine ⟨a, vs, rfl, .inl (.of hv), ?_⟩
        rw [rv.len]
        exact out.int rh b
      | dct kvs =>
        simp only [b1D, rdQ, rdL, ho] at b
        cases relRef rd
        right
        rcases rh a _ ho with ⟨ps, hp, rk⟩ | ⟨ps, hp, rk⟩
        · left
          refine ⟨a, ps, rfl, hp, ?_⟩
          rw [(relK_gen.mp rk).len]
          exact out.int rh b
        · right
          refine ⟨a, ps, rfl, hp, ?_⟩
          rw [(relKT_gen.mp rk).len]
          exact out.int rh b
      | ins _ _ => simp only [b1D, rdQ, rdL, ho] at b
      | exc _ _ => simp only [b1D, rdQ, rdL, ho] at b
  | non => simp only [b1D, rdQ, rdL] at b
  | bl _ => simp only [b1D, rdQ, rdL] at b
  | int _ => simp only [b1D, rdQ, rdL] at b
theorem b1_sum (hc : X.calm = true) : CallR X (.builtin "sum") (rB1 X.K .sum) := by
  intro pins s σ H xs us Q I rs hq
  obtain ⟨x, d, h, Qd, rfl, rd, rh, b, out⟩ := hq
  cases e1 : rdL h d with
  | none => simp only [b1D, e1] at b
  | some ds =>
    cases e2 : intsOf ds with
    | none => simp only [b1D, e1, e2] at b
    | some ns =>
      simp only [b1D, e1, e2] at b
      obtain ⟨a, vs, rfl, hs, rv⟩ := rdL_ok rh rd e1
      have ev := ints_ok e2 rv
      subst ev
      exact cr_sum hc pins s σ H _ us Q I rs ⟨a, ns, rfl, hs, out.int rh b⟩
theorem b1_all (hc : X.calm = true) : CallR X (.builtin "all") (rB1 X.K .all) := by
  intro pins s σ H xs us Q I rs hq
  obtain ⟨x, d, h, Qd, rfl, rd, rh, b, out⟩ := hq
  cases e1 : rdL h d with
  | none => simp only [b1D, e1] at b
  | some ds =>
    cases e2 : blsOf ds with
    | none => simp only [b1D, e1, e2] at b
    | some ns =>
      simp only [b1D, e1, e2] at b
      obtain ⟨a, vs, rfl, hs, rv⟩ := rdL_ok rh rd e1
      have ev := bls_ok e2 rv
      subst ev
      exact cr_all hc pins s σ H _ us Q I rs ⟨a, ns, rfl, hs, out.bl rh b⟩
theorem b1_any (hc : X.calm = true) : CallR X (.builtin "any") (rB1 X.K .any) := by
  intro pins s σ H xs us Q I rs hq
  obtain ⟨x, d, h, Qd, rfl, rd, rh, b, out⟩ := hq
  cases e1 : rdL h d with
  | none => simp only [b1D, e1] at b
  | some ds =>
    cases e2 : blsOf ds with
    | none => simp only [b1D, e1, e2] at b
    | some ns =>
      simp only [b1D, e1, e2] at b
      obtain ⟨a, vs, rfl, hs, rv⟩ := rdL_ok rh rd e1
      have ev := bls_ok e2 rv
      subst ev
      exact cr_any hc pins s σ H _ us Q I rs ⟨a, ns, rfl, hs, out.bl rh b⟩
theorem foldl_maxI : ∀ (ns : List Int) (n : Int), ns.foldl max n = maxI n ns
  | [], _ => rfl
  | i :: ns, n => by
    rw [List.foldl_cons, foldl_maxI ns, maxI]
    congr 1
    by_cases z : n < i
    · rw [if_pos z]; omega
    · rw [if_neg z]; omega
theorem foldl_minI : ∀ (ns : List Int) (n : Int), ns.foldl min n = minI n ns
  | [], _ => rfl
  | i :: ns, n => by
    rw [List.foldl_cons, foldl_minI ns, minI]
    congr 1
    by_cases z : i < n
    · rw [if_pos z]; omega
    · rw [if_neg z]; omega
theorem reads_ints {h : Heap} : ∀ (ns : List Int) {us : List Value}, Vals (ns.map V.int) us → ReadsAll h us (ns.map PyData.int) []
  | [], _, r => by cases r; exact .nil
  | n :: ns, _, r => by
    cases r with
    | cons r1 r2 =>
      obtain ⟨t, rfl⟩ := r1
      exact .cons (.int n t) (reads_ints ns r2)
theorem alike_ints (n : Int) (ns : List Int) : PySem.W.AlikeAll (PyData.int n :: ns.map PyData.int) := by
  have e : PyData.int n :: ns.map PyData.int = (n :: ns).map PyData.int := rfl
  rw [e]
  refine ⟨fun x hx y hy => ?_, fun x hx => ?_⟩
  · obtain ⟨i, _, rfl⟩ := List.mem_map.mp hx
    obtain ⟨j, _, rfl⟩ := List.mem_map.mp hy
    simp [PySem.W.alike]
  · obtain ⟨i, _, rfl⟩ := List.mem_map.mp hx
    exact fun z => nomatch z
theorem depth_ints : ∀ ns : List Int, PyData.depthAll (ns.map PyData.int) = 0
  | [] => by simp [PyData.depthAll]
  | n :: ns => by simp [PyData.depthAll, PyData.depth, depth_ints ns]
theorem cr_maxT (hc : X.calm = true) (hu : X.A.units + 64 < cLine) : CallR X (.builtin "max") (fun vs H Q => ∃ (a : Addr) (n : Int) (ns : List Int), vs = [.ref a] ∧ SqT X.K H a ((n :: ns).map V.int) ∧ Q (.int (maxI n ns)) H) := by
  rintro pins s σ H vs us Q I r ⟨a, n, ns, rfl, hs, q⟩
  obtain ⟨u, rfl, ru⟩ := vals1 r
  cases ru
  obtain ⟨its, rv, ht, _⟩ := I.tuple hs
  refine PySem.W.max_tuple_data (x := .int n) (xs := ns.map PyData.int) (as := []) (I.ok.hd hc) ht (reads_ints (n :: ns) rv) (alike_ints n ns) (by rw [show PyData.int n :: ns.map PyData.int = (n :: ns).map PyData.int from rfl, depth_ints]; omega) fun i v h' tk bs _ rr kk => ?_
  rw [PySem.W.maxD_ints, foldl_maxI] at rr
  cases rr with
  | int _ t => exact ⟨.int _, H, I.kept kk, ⟨_, rfl⟩, q⟩
theorem cr_minT (hc : X.calm = true) (hu : X.A.units + 64 < cLine) : CallR X (.builtin "min") (fun vs H Q => ∃ (a : Addr) (n : Int) (ns : List Int), vs = [.ref a] ∧ SqT X.K H a ((n :: ns).map V.int) ∧ Q (.int (minI n ns)) H) := by
  rintro pins s σ H vs us Q I r ⟨a, n, ns, rfl, hs, q⟩
  obtain ⟨u, rfl, ru⟩ := vals1 r
  cases ru
  obtain ⟨its, rv, ht, _⟩ := I.tuple hs
  refine PySem.W.min_tuple_data (x := .int n) (xs := ns.map PyData.int) (as := []) (I.ok.hd hc) ht (reads_ints (n :: ns) rv) (alike_ints n ns) (by rw [show PyData.int n :: ns.map PyData.int = (n :: ns).map PyData.int from rfl, depth_ints]; omega) fun i v h' tk bs _ rr kk => ?_
  rw [PySem.W.minD_ints, foldl_minI] at rr
  cases rr with
  | int _ t => exact ⟨.int _, H, I.kept kk, ⟨_, rfl⟩, q⟩
theorem b1_max (hc : X.calm = true) (hu : X.A.units + 64 < cLine) : CallR X (.builtin "max") (rB1 X.K .maxL) := by
  intro pins s σ H xs us Q I rs hq
  obtain ⟨x, d, h, Qd, rfl, rd, rh, b, out⟩ := hq
  cases e1 : rdQ h d with
  | none => simp only [b1D, e1] at b
  | some ds =>
    cases e2 : intsOf ds with
    | none => simp only [b1D, e1, e2] at b
    | some ns =>
      cases ns with
      | nil => simp only [b1D, e1, e2] at b
      | cons n ns =>
        simp only [b1D, e1, e2] at b
        obtain ⟨a, vs, rfl, hs, rv⟩ := rdQ_ok rh rd e1
        have ev := ints_ok e2 rv
        subst ev
        rcases hs with hs | hs
        · refine cr_max hc pins s σ H _ us Q I rs ⟨a, n :: ns, rfl, hs, Nat.succ_pos _, fun m hm hy => ?_⟩
          have e3 : m = maxI n ns := Int.le_antisymm (maxI_ge ns n m hm) (hy _ (maxI_mem ns n))
          rw [e3]
          exact out.int rh b
        · exact cr_maxT hc hu pins s σ H _ us Q I rs ⟨a, n, ns, rfl, hs, out.int rh b⟩
theorem b1_min (hc : X.calm = true) (hu : X.A.units + 64 < cLine) : CallR X (.builtin "min") (rB1 X.K .minL) := by
  intro pins s σ H xs us Q I rs hq
  obtain ⟨x, d, h, Qd, rfl, rd, rh, b, out⟩ := hq
  cases e1 : rdQ h d with
  | none => simp only [b1D, e1] at b
  | some ds =>
    cases e2 : intsOf ds with
    | none => simp only [b1D, e1, e2] at b
    | some ns =>
      cases ns with
      | nil => simp only [b1D, e1, e2] at b
      | cons n ns =>
        simp only [b1D, e1, e2] at b
        obtain ⟨a, vs, rfl, hs, rv⟩ := rdQ_ok rh rd e1
        have ev := ints_ok e2 rv
        subst ev
        rcases hs with hs | hs
        · refine cr_min hc pins s σ H _ us Q I rs ⟨a, n :: ns, rfl, hs, Nat.succ_pos _, fun m hm hy => ?_⟩
          have e3 : m = minI n ns := Int.le_antisymm (hy _ (minI_mem ns n)) (minI_le ns n m hm)
          rw [e3]
          exact out.int rh b
        · exact cr_minT hc hu pins s σ H _ us Q I rs ⟨a, n, ns, rfl, hs, out.int rh b⟩
theorem b1_int : CallR X (.type "int") (rB1 X.K .int) := by
  intro pins s σ H xs us Q I rs hq
  obtain ⟨x, d, h, Qd, rfl, rd, rh, b, out⟩ := hq
  refine (call_int1.or call_int_str) pins s σ H _ us Q I rs ?_
  cases d with
  | int i => cases relInt rd; exact .inl (.inl ⟨i, rfl, out.int rh b⟩)
  | bl i => cases relBl rd; exact .inl (.inr ⟨i, rfl, out.int rh b⟩)
  | str z =>
    cases relStr rd
    cases e1 : PySem.intText? (mkS z) with
    | none => simp only [b1D, e1] at b
    | some n =>
      simp only [b1D, e1] at b
      exact .inr ⟨mkS z, n, rfl, e1, by rw [mkS_len]; exact b.1, out.int rh b.2⟩
  | _ => simp only [b1D] at b
theorem b1_str : CallR X (.type "str") (rB1 X.K .str) := by
  intro pins s σ H xs us Q I rs hq
  obtain ⟨x, d, h, Qd, rfl, rd, rh, b, out⟩ := hq
  cases d with
  | int i =>
    cases relInt rd
    obtain ⟨hz, bb⟩ := (show i.natAbs.log2 < 1920 ∧ Qd (.str (showN i)) h from b)
    refine call_str_int pins s σ H _ us Q I rs ⟨i, rfl, hz, ?_⟩
    have z := out.str rh bb
    unfold showN at z
    rw [mkS_of] at z
    exact z
  | _ => simp only [b1D] at b
theorem b1_abs : CallR X (.builtin "abs") (rB1 X.K .abs) := by
  intro pins s σ H xs us Q I rs hq
  obtain ⟨x, d, h, Qd, rfl, rd, rh, b, out⟩ := hq
  cases d with
  | int i =>
    cases relInt rd
    exact call_abs pins s σ H _ us Q I rs ⟨i, rfl, out.int rh b⟩
  | _ => simp only [b1D] at b
theorem b1_list (fz : Bool) : CallR X (.type "list") (rB1 X.K (.list fz)) := by
  intro pins s σ H xs us Q I rs hq
  obtain ⟨x, d, h, Qd, rfl, rd, rh, b, out⟩ := hq
  cases e1 : rdQ h d with
  | none => simp only [b1D, e1] at b
  | some ds =>
    simp only [b1D, e1] at b
    obtain ⟨a, vs, rfl, hs, rv⟩ := rdQ_ok rh rd e1
    exact call_list_of.fr pins s σ H _ us Q I rs ⟨a, vs, rfl, hs, fun p hp => out.newL rh hp b rv⟩
theorem b1_tuple : CallR X (.type "tuple") (rB1 X.K .tuple) := by
  intro pins s σ H xs us Q I rs hq
  obtain ⟨x, d, h, Qd, rfl, rd, rh, b, out⟩ := hq
  cases d with
  | tup ds =>
    simp only [b1D, rdQ] at b
    obtain ⟨a, vs, rfl, ht, rv⟩ := relTup rd
    exact call_tuple_of pins s σ H _ us Q I rs ⟨a, vs, rfl, .inr ⟨ht, out.at rh b rd⟩⟩
  | ref c =>
    cases e1 : rdL h (.ref c) with
    | none => simp only [b1D, rdQ, e1] at b
    | some ds =>
      simp only [b1D, rdQ, e1] at b
      obtain ⟨a, vs, rfl, hs, rv⟩ := rdL_ok rh rd e1
      exact call_tuple_of pins s σ H _ us Q I rs ⟨a, vs, rfl, .inl ⟨hs, fun p hp => out.tup rh hp b rv⟩⟩
  | rol ds =>
    simp only [b1D, rdQ, rdL] at b
    obtain ⟨a, vs, rfl, hs, rv⟩ := rdL_ok (ds := ds) rh rd rfl
    exact call_tuple_of pins s σ H _ us Q I rs ⟨a, vs, rfl, .inl ⟨hs, fun p hp => out.tup rh hp b rv⟩⟩
  | non => simp only [b1D, rdQ, rdL] at b
  | bl _ => simp only [b1D, rdQ, rdL] at b
  | int _ => simp only [b1D, rdQ, rdL] at b
  | str _ => simp only [b1D, rdQ, rdL] at b
theorem sh_none : mkS (PyData.none).shown.cps.toList = (PyData.none).shown := mkS_of _
theorem b1_repr (hu : X.A.units + 64 < cLine) (hg : X.A.guards = some []) : CallR X (.builtin "repr") (rB1 X.K .repr) := by
  intro pins s σ H xs us Q I rs hq
  obtain ⟨x, d, h, Qd, rfl, rd, rh, b, out⟩ := hq
  cases e1 : deref 70 h d with
  | none => simp only [b1D, e1] at b
  | some a =>
    simp only [b1D, e1] at b
    obtain ⟨hs, hdp, hnd, hz, bb⟩ := b
    have dp := deref_dp rh 70 d a x e1 rd
    obtain ⟨u, rfl, ru⟩ := vals1 rs
    obtain ⟨as, rr⟩ := Dp.reads I _ _ _ dp ru
    have z : Q (.str (toPD a).shown) H := by
      have z := out.str rh bb
      rwa [mkS_of] at z
    generalize toPD a = pd at dp rr hs hdp hnd hz z
    have fin : ∀ h' t tk, (∀ b o, s.heap.get? b = some o → h'.get? b = some o) → EP X pins σ Q (.str pd.shown t) { s with heap := h', toks := tk } := fun h' t tk k =>
      ⟨.str pd.shown, H, I.kept k, ⟨t, rfl⟩, z⟩
    have flat : ∀ v, (∀ t tk, EP X pins σ Q (.str v t) { s with toks := tk }) → v = pd.shown → True := fun _ _ _ => trivial
    cases dp with
    | non =>
      cases (show u = Value.none from ru)
      refine PySem.P.repr_of_none ?_
      have e := PyData.shown_none
      rw [← e]
      exact fin s.heap _ _ fun _ _ q => q
    | bl c =>
      cases (show u = Value.bool c from ru)
      refine PySem.P.repr_of_bool ?_
      have e := PyData.shown_bool c
      rw [← e]
      exact fin s.heap _ _ fun _ _ q => q
    | int i =>
      obtain ⟨t, rfl⟩ := (show ∃ t, u = Value.int i t from ru)
      have hs' : i.natAbs.log2 < 1920 := by simpa [PyData.showable] using hs
      refine PySem.P.repr_of_int hs' ?_
      have e := PyData.shown_int i
      have q := fin s.heap s.toks (s.toks + 1) fun _ _ q => q
      rw [e] at q
      exact q
    | str y =>
      obtain ⟨t, rfl⟩ := (show ∃ t, u = Value.str y t from ru)
      have e := PyData.shown_str y
      refine PySem.P.repr_of_str ?_ (by rw [← e]; exact hz)
      rw [← e]
      exact fin s.heap _ _ fun _ _ q => q
    | lst _ _ =>
      cases ru
      exact repr_of_reads' rr hs (fun q => by rw [hnd] at q; cases q) hg (by omega) (fun _ _ q => q) (fun h' t tk k => fin h' t tk k) hz
    | tup _ _ =>
      cases ru
      exact repr_of_reads' rr hs (fun q => by rw [hnd] at q; cases q) hg (by omega) (fun _ _ q => q) (fun h' t tk k => fin h' t tk k) hz

def rB2 (K : PySem.W.Frag) (f : B2) : List V → Hp → VK → Prop := fun xs H Q => ∃ x y d e h Qd, xs = [x, y] ∧ RelD K H d x ∧ RelD K H e y ∧ RelH K H h ∧ b2D f d e h Qd ∧ Out K H h Qd Q
theorem b2_max (hc : X.calm = true) : CallR X (.builtin "max") (rB2 X.K .max) := by
  intro pins s σ H xs us Q I rs hq
  obtain ⟨x, y, d, e, h, Qd, rfl, rd, re, rh, b, out⟩ := hq
  cases d with
  | int i =>
    cases e with
    | int j =>
      cases relInt rd; cases relInt re
      exact call_max2 hc pins s σ H _ us Q I rs ⟨i, j, rfl, out.int rh b⟩
    | _ => simp only [b2D] at b
  | _ => cases e <;> simp only [b2D] at b
theorem b2_min (hc : X.calm = true) : CallR X (.builtin "min") (rB2 X.K .min) := by
  intro pins s σ H xs us Q I rs hq
  obtain ⟨x, y, d, e, h, Qd, rfl, rd, re, rh, b, out⟩ := hq
  cases d with
  | int i =>
    cases e with
    | int j =>
      cases relInt rd; cases relInt re
      exact call_min2 hc pins s σ H _ us Q I rs ⟨i, j, rfl, out.int rh b⟩
    | _ => simp only [b2D] at b
  | _ => cases e <;> simp only [b2D] at b
end
end Lit
namespace Lit
open PySem PySem.Spec PyProof.Rows L2
def mthTy : Mth → String
  | .append | .extend | .pop | .popAt | .insert | .lindex => "list"
  | .split _ | .join | .upper | .sindex | .scount => "str"
  | .dget => "dict"
def mthId : Mth → String
  | .append => "list.append"
  | .extend => "list.extend"
  | .pop => "list.pop"
  | .popAt => "list.pop"
  | .insert => "list.insert"
  | .lindex => "list.index"
  | .split _ => "str.split"
  | .join => "str.join"
  | .upper => "str.upper"
  | .sindex => "str.index"
  | .scount => "str.count"
  | .dget => "dict.get"
def mthNm : Mth → Str
  | .append => "append"
  | .extend => "extend"
  | .pop => "pop"
  | .popAt => "pop"
  | .insert => "insert"
  | .lindex => "index"
  | .split _ => "split"
  | .join => "join"
  | .upper => "upper"
  | .sindex => "index"
  | .scount => "count"
  | .dget => "get"
theorem mth_attrs : ∀ m : Mth, PlainAttrs (mthTy m)
  | .append | .extend | .pop | .popAt | .insert | .lindex => PySem.F.plainAttrs_list
  | .split _ | .join | .upper | .sindex | .scount => PySem.F.plainAttrs_str
  | .dget => PySem.F.plainAttrs_dict
theorem mth_slot : ∀ m : Mth, Slot (mthTy m) (mthNm m) (mthId m)
  | .append => PySem.F.slot_list_append
  | .extend => PySem.F.slot_list_extend
  | .pop => PySem.F.slot_list_pop
  | .popAt => PySem.F.slot_list_pop
  | .insert => PySem.F.slot_list_insert
  | .lindex => PySem.F.slot_list_index
  | .split _ => PySem.F.slot_str_split
  | .join => PySem.F.slot_str_join
  | .upper => PySem.F.slot_str_upper
  | .sindex => PySem.F.slot_str_index
  | .scount => PySem.F.slot_str_count
  | .dget => PySem.F.slot_dict_get
theorem mth_type : ∀ m : Mth, typeOf (.builtin (mthId m)) = pure (.type "method_descriptor")
  | .append => PySem.F.type_list_append
  | .extend => PySem.F.type_list_extend
  | .pop => PySem.F.type_list_pop
  | .popAt => PySem.F.type_list_pop
  | .insert => PySem.F.type_list_insert
  | .lindex => PySem.F.type_list_index
  | .split _ => PySem.F.type_str_split
  | .join => PySem.F.type_str_join
  | .upper => PySem.F.type_str_upper
  | .sindex => PySem.F.type_str_index
  | .scount => PySem.F.type_str_count
  | .dget => PySem.F.type_dict_get
section
variable {K : PySem.W.Frag} {H : Hp} {h : PH}
theorem tyB_ok (rh : RelH K H h) {m : Mth} {d : D} {x : V} (rd : RelD K H d x) (e : tyB m d h = true) : tyV K (mthTy m) x H := by
  have lst : (rdM h d).isSome = true → tyV K "list" x H := fun q => by
    obtain ⟨ds, e1⟩ := Option.isSome_iff_exists.mp q
    obtain ⟨a, vs, _, rfl, hv, _⟩ := rdM_ok rh rd e1
    exact .inl ⟨rfl, vs, .of hv⟩
  have str : isStr d = true → tyV K "str" x H := fun q => by
    cases d with
    | str z => cases relStr rd; rfl
    | _ => cases q
  cases m with
  | append => exact lst e
  | extend => exact lst e
  | pop => exact lst e
  | popAt => exact lst e
  | insert => exact lst e
  | lindex => exact lst e
  | split => exact str e
  | join => exact str e
  | upper => exact str e
  | sindex => exact str e
  | scount => exact str e
  | dget =>
    cases d with
    | ref a =>
      cases ho : h a with
      | none => simp only [tyB, ho] at e; cases e
      | some o =>
        cases o with
        | dct kvs =>
          cases relRef rd
          rcases rh a _ ho with ⟨ps, hp, _⟩ | ⟨ps, hp, _⟩
          · exact .inr (.inr (.inl ⟨rfl, .inl ⟨ps, hp⟩⟩))
          · exact .inr (.inr (.inl ⟨rfl, .inr ⟨ps, hp⟩⟩))
        | _ => simp only [tyB, ho] at e; cases e
    | _ => cases e
theorem RelDs.eraseIdx : ∀ {ds : List D} {vs : List V} (i : Nat), RelDs K H ds vs → RelDs K H (ds.eraseIdx i) (vs.eraseIdx i)
  | [], _, _, r => by simp only [RelDs] at r; subst r; exact .nil
  | d :: ds, _, 0, r => by
    simp only [RelDs] at r
    obtain ⟨v, w, rfl, r1, r2⟩ := r
    exact r2
  | d :: ds, _, i + 1, r => by
    simp only [RelDs] at r
    obtain ⟨v, w, rfl, r1, r2⟩ := r
    exact .cons r1 (RelDs.eraseIdx i r2)
theorem RelDs.dropLast {ds : List D} {vs : List V} (r : RelDs K H ds vs) : RelDs K H ds.dropLast vs.dropLast := by
  rw [List.dropLast_eq_take, List.dropLast_eq_take, r.len]
  exact r.take _
theorem rel1 {d : D} {vs : List V} (r : RelDs K H [d] vs) : ∃ v, vs = [v] ∧ RelD K H d v := by
  simp only [RelDs] at r
  obtain ⟨v, w, rfl, r1, rfl⟩ := r
  exact ⟨v, rfl, r1⟩
theorem rel2 {d e : D} {vs : List V} (r : RelDs K H [d, e] vs) : ∃ v w, vs = [v, w] ∧ RelD K H d v ∧ RelD K H e w := by
  simp only [RelDs] at r
  obtain ⟨v, w, rfl, r1, v', w', rfl, r2, rfl⟩ := r
  exact ⟨v, v', rfl, r1, r2⟩
theorem rel0 {vs : List V} (r : RelDs K H [] vs) : vs = [] := by simpa only [RelDs] using r
end
/-- what a told dict has not at a key -/
theorem dget_no {K : PySem.W.Frag} {H : Hp} {h : PH} (rh : RelH K H h) {a : Addr} {kvs : List (D × D)} (ha : h a = some (.dct kvs)) (ne : kvs ≠ []) {k : D} (ok : keyOk k = true) (lk : likeKeys k kvs = true) {y : V} (ry : RelD K H k y) (e : getD? k kvs = none) : DGet H a y none := by
  rcases keyOk_cases ok with ⟨kk, f⟩ | ⟨qs, kk, rfl, f⟩
  · rcases rh a _ ha with ⟨ps, hp, rk⟩ | ⟨ps, hp, rk⟩
    · have g := DGet.k (k := kk) hp
      rw [getD_none kd2 f (relK_gen.mp rk) e] at g
      rw [keyD_kV f ry]
      exact g
    · exfalso
      cases kvs with
      | nil => exact ne rfl
      | cons p r =>
        obtain ⟨pp, _, _, _, _, e1, _⟩ := (show RelKT K H ((p.1, p.2) :: r) ps from rk)
        cases k with
        | tup _ => cases f
        | _ =>
          have lk' : (((match p.1 with
            | .tup _ => false
            | _ => true) && r.all fun p => match p.1 with
            | .tup _ => false
            | _ => true) : Bool) = true := lk
          rw [e1] at lk'
          cases lk'
  · rcases rh a _ ha with ⟨ps, hp, rk⟩ | ⟨ps, hp, rk⟩
    · exfalso
      cases kvs with
      | nil => exact ne rfl
      | cons p r =>
        obtain ⟨_, _, _, _, e1, _⟩ := (show RelK K H ((p.1, p.2) :: r) ps from rk)
        have lk' : (((match p.1 with
          | .tup _ => true
          | _ => false) && r.all fun p => match p.1 with
          | .tup _ => true
          | _ => false) : Bool) = true := lk
        obtain ⟨l1, _⟩ := Bool.and_eq_true_iff.mp lk'
        cases hp1 : p.1 with
        | tup _ => rw [hp1] at e1; cases e1
        | _ => rw [hp1] at l1; cases l1
    · obtain ⟨bb, vs, rfl, hb, rs⟩ := relTupK ry ok
      rw [keysD_kV f rs] at hb
      have g := DGet.t (k := kk) hp hb
      rw [getD_none kt2 ⟨qs, rfl, f⟩ (relKT_gen.mp rk) e] at g
      exact g
def rMth (K : PySem.W.Frag) (m : Mth) : V → List V → Hp → VK → Prop := fun x xs H Q => ∃ d ds h Qd, RelD K H d x ∧ RelDs K H ds xs ∧ RelH K H h ∧ mthD m d ds h Qd ∧ Out K H h Qd Q
section
variable {X : Cx}
/-- a told list is put otherwise -/
theorem lput {K : PySem.W.Frag} {H : Hp} {h : PH} {Qd : D → PH → Prop} {Q : VK} {a : Addr} {ds es : List D} {ws : List V} {r : D} {v : V} (rh : RelH K H h) (out : Out K H h Qd Q) (ho : h a = some (.lst ds)) (rv : RelDs K H es ws)
    (rr : RelD K H r v) (b : put a (.lst es) h fun h' => Qd r h') : Q v (upd H a (.lst ws)) := by
  have nt := rh.noT ho
  obtain ⟨h', q1, q2, q3⟩ := put_ok (u := .lst ws) rh ho b ⟨_, upd_same, rv.keep (Stay.upd.keeps nt)⟩
  exact out r h' _ _ q1 (rr.keep (Stay.upd.keeps nt)) q2 q3
theorem mth_any (hu : X.A.units + 64 < cLine) (m : Mth) (hm : m ≠ .lindex) : MtR X (mthId m) (rMth X.K m) := by
  intro pins s σ H x xs v us Q I rx rs hq
  obtain ⟨d, ds, h, Qd, rd, rds, rh, b, out⟩ := hq
  cases m with
  | append =>
    cases ds with
    | nil => cases d <;> exact False.elim b
    | cons y t =>
      cases t with
      | cons _ _ => cases d <;> exact False.elim b
      | nil =>
        obtain ⟨vy, rfl, ry⟩ := rel1 rds
        cases d with
        | ref a =>
          cases ho : h a with
          | none => simp only [mthD, ho] at b
          | some o =>
            cases o with
            | lst es =>
              simp only [mthD, ho] at b
              obtain ⟨vs, hv, rv⟩ := rh a _ ho
              cases relRef rd
              refine mt_append pins s σ H _ _ v us Q I rx rs ⟨a, vs, vy, rfl, rfl, hv, by rw [rv.len]; exact b.1, ?_⟩
              exact lput (r := .non) rh out ho (rv.append (.one ry)) rfl b.2
            | _ => simp only [mthD, ho] at b
        | _ => exact False.elim b
  | extend =>
    cases ds with
    | nil => cases d <;> exact False.elim b
    | cons y t =>
      cases t with
      | cons _ _ => cases d <;> exact False.elim b
      | nil =>
        obtain ⟨vy, rfl, ry⟩ := rel1 rds
        cases d with
        | ref a =>
          cases ho : h a with
          | none => simp only [mthD, ho] at b
          | some o =>
            cases o with
            | lst es =>
              cases hc : rdL h y with
              | none => simp only [mthD, ho, hc] at b
              | some fs =>
                simp only [mthD, ho, hc] at b
                obtain ⟨vs, hv, rv⟩ := rh a _ ho
                obtain ⟨c, ws, rfl, hw, rw'⟩ := rdL_li rh ry hc
                cases relRef rd
                refine mt_extendF pins s σ H _ _ v us Q I rx rs ⟨a, c, vs, ws, rfl, rfl, hv, hw, by rw [rv.len, rw'.len]; exact b.1, ?_⟩
                exact lput (r := .non) rh out ho (rv.append rw') rfl b.2
            | _ => simp only [mthD, ho] at b
        | _ => exact False.elim b
  | pop =>
    cases ds with
    | cons _ _ => cases d <;> exact False.elim b
    | nil =>
      cases rel0 rds
      cases d with
      | ref a =>
        cases ho : h a with
        | none => simp only [mthD, ho] at b
        | some o =>
          cases o with
          | lst es =>
            cases e1 : es[es.length - 1]? with
            | none => simp only [mthD, ho, e1] at b
            | some y =>
              simp only [mthD, ho, e1] at b
              obtain ⟨vs, hv, rv⟩ := rh a _ ho
              obtain ⟨vy, hy, ry⟩ := rv.get' _ _ e1
              cases relRef rd
              refine mt_pop pins s σ H _ _ v us Q I rx rs ⟨a, vs, vy, rfl, rfl, hv, by rw [rv.len]; exact hy, ?_⟩
              exact lput rh out ho rv.dropLast ry b
          | _ => simp only [mthD, ho] at b
      | _ => exact False.elim b
  | popAt =>
    cases ds with
    | nil => cases d <;> exact False.elim b
    | cons y t =>
      cases t with
      | cons _ _ => cases y <;> cases d <;> exact False.elim b
      | nil =>
        obtain ⟨vy, rfl, ry⟩ := rel1 rds
        cases y with
        | int i =>
          cases d with
          | ref a =>
            cases ho : h a with
            | none => simp only [mthD, ho] at b
            | some o =>
              cases o with
              | lst es =>
                simp only [mthD, ho] at b
                obtain ⟨i1, i2, b⟩ := b
                cases e1 : ixN es.length i with
                | none => simp only [e1] at b
                | some k =>
                  cases e2 : es[k]? with
                  | none => simp only [e1, e2] at b
                  | some z =>
                    simp only [e1, e2] at b
                    obtain ⟨vs, hv, rv⟩ := rh a _ ho
                    obtain ⟨vz, hz, rz⟩ := rv.get' _ _ e2
                    cases relRef rd
                    cases relInt ry
                    refine mt_popAt pins s σ H _ _ v us Q I rx rs ⟨a, vs, i, k, vz, rfl, rfl, hv, i1, i2, by rw [rv.len]; exact (ixN_seq e1).1, hz, ?_⟩
                    exact lput rh out ho (rv.eraseIdx k) rz b
              | _ => simp only [mthD, ho] at b
          | _ => exact False.elim b
        | _ => cases d <;> exact False.elim b
  | insert =>
    cases ds with
    | nil => cases d <;> exact False.elim b
    | cons k t =>
      cases t with
      | nil => cases k <;> cases d <;> exact False.elim b
      | cons y t =>
        cases t with
        | cons _ _ => cases k <;> cases d <;> exact False.elim b
        | nil =>
          obtain ⟨vk, vy, rfl, rk, ry⟩ := rel2 rds
          cases k with
          | int i =>
            cases d with
            | ref a =>
              cases ho : h a with
              | none => simp only [mthD, ho] at b
              | some o =>
                cases o with
                | lst es =>
                  simp only [mthD, ho] at b
                  obtain ⟨l1, i1, i2, b⟩ := b
                  obtain ⟨vs, hv, rv⟩ := rh a _ ho
                  cases relRef rd
                  cases relInt rk
                  refine mt_insert pins s σ H _ _ v us Q I rx rs ⟨a, vs, i, vy, rfl, rfl, hv, by rw [rv.len]; exact l1, i1, i2, ?_⟩
                  exact lput (r := .non) rh out ho (((rv.take _).append (.one ry)).append (rv.drop _)) rfl b
                | _ => simp only [mthD, ho] at b
            | _ => exact False.elim b
          | _ => cases d <;> exact False.elim b
  | lindex => exact absurd rfl hm
  | split fz =>
    cases ds with
    | nil => cases d <;> exact False.elim b
    | cons y t =>
      cases t with
      | cons _ _ => cases y <;> cases d <;> exact False.elim b
      | nil =>
        obtain ⟨vy, rfl, ry⟩ := rel1 rds
        cases y with
        | str z =>
          cases d with
          | str a =>
            simp only [mthD] at b
            obtain ⟨ne, hz, b⟩ := b
            cases relStr rd; cases relStr ry
            refine mt_split.fr pins s σ H _ _ v us Q I rx rs ⟨mkS a, mkS z, rfl, rfl, ?_, by rw [mkS_len]; exact hz, fun p hp => ?_⟩
            · rw [mkS_len]
              cases z with
              | nil => exact absurd rfl ne
              | cons _ _ => rfl
            · exact out.newL rh hp b (RelDs.strs _)
          | _ => exact False.elim b
        | _ => cases d <;> exact False.elim b
  | join =>
    cases ds with
    | nil => cases d <;> exact False.elim b
    | cons y t =>
      cases t with
      | cons _ _ => cases d <;> exact False.elim b
      | nil =>
        obtain ⟨vy, rfl, ry⟩ := rel1 rds
        cases e1 : rdQ h y with
        | none => cases d <;> simp only [mthD, e1] at b
        | some es =>
          cases e2 : strsOf es with
          | none => cases d <;> simp only [mthD, e1, e2] at b
          | some ys =>
            cases d with
            | str a =>
              simp only [mthD, e1, e2] at b
              obtain ⟨p, vs, rfl, hsq, rv⟩ := rdQ_ok rh ry e1
              have ev := strs_ok e2 rv
              subst ev
              cases relStr rd
              have z := out.str rh b.2
              rw [mkS_of] at z
              refine mt_join pins s σ H _ _ v us Q I rx rs ⟨mkS a, p, ys.map mkS, rfl, rfl, hsq, ?_, z⟩
              have e3 : (ys.map mkS).map (·.length) = ys.map (·.length) := by
                rw [List.map_map]
                exact List.map_congr_left fun t _ => mkS_len t
              rw [e3, List.length_map, mkS_len]
              exact b.1
            | _ => simp only [mthD, e1] at b
  | upper =>
    cases ds with
    | cons _ _ => cases d <;> exact False.elim b
    | nil =>
      cases rel0 rds
      cases d with
      | str a =>
        simp only [mthD] at b
        cases relStr rd
        have z := out.str rh b.2
        rw [mkS_of] at z
        exact mt_upper pins s σ H _ _ v us Q I rx rs ⟨mkS a, rfl, rfl, by rw [mkS_len]; exact b.1, z⟩
      | _ => exact False.elim b
  | sindex =>
    cases ds with
    | nil => cases d <;> exact False.elim b
    | cons y t =>
      cases t with
      | cons _ _ => cases y <;> cases d <;> exact False.elim b
      | nil =>
        obtain ⟨vy, rfl, ry⟩ := rel1 rds
        cases y with
        | str z =>
          cases d with
          | str a =>
            cases e1 : Txt.index0 (mkS a) (mkS z) with
            | none => simp only [mthD, e1] at b
            | some k =>
              simp only [mthD, e1] at b
              cases relStr rd; cases relStr ry
              cases rs with
              | cons r1 rs =>
                cases rs
                obtain ⟨t1, rfl⟩ := rx
                obtain ⟨t2, rfl⟩ := r1
                have e2 : (Builtin.Str.occurrences (mkS a) (mkS z) 0 (mkS a).length 1).head? = some k := e1
                cases q : Builtin.Str.occurrences (mkS a) (mkS z) 0 (mkS a).length 1 with
                | nil => rw [q] at e2; cases e2
                | cons k' rest =>
                  rw [q] at e2
                  cases e2
                  exact PySem.SC.index q ⟨.int (k : Nat), H, I.tok _, ⟨_, rfl⟩, out.int rh b⟩
          | _ => exact False.elim b
        | _ => cases d <;> exact False.elim b
  | scount =>
    cases ds with
    | nil => cases d <;> exact False.elim b
    | cons y t =>
      cases t with
      | cons _ _ => cases y <;> cases d <;> exact False.elim b
      | nil =>
        obtain ⟨vy, rfl, ry⟩ := rel1 rds
        cases y with
        | str z =>
          cases d with
          | str a =>
            simp only [mthD] at b
            cases relStr rd; cases relStr ry
            exact mt_count pins s σ H _ _ v us Q I rx rs ⟨mkS a, mkS z, rfl, rfl, out.int rh b⟩
          | _ => exact False.elim b
        | _ => cases d <;> exact False.elim b
  | dget =>
    cases ds with
    | nil => cases d <;> exact False.elim b
    | cons k t =>
      cases t with
      | nil => cases d <;> exact False.elim b
      | cons z t =>
        cases t with
        | cons _ _ => cases d <;> exact False.elim b
        | nil =>
          obtain ⟨vk, vz, rfl, rk, rz⟩ := rel2 rds
          cases d with
          | ref a =>
            cases ho : h a with
            | none => simp only [mthD, ho] at b
            | some o =>
              cases o with
              | dct kvs =>
                simp only [mthD, ho] at b
                obtain ⟨ne, ok, lk, b⟩ := b
                cases relRef rd
                obtain ⟨w, g, rw'⟩ : ∃ o, DGet H a vk o ∧ RelD X.K H ((getD? k kvs).getD z) (o.getD vz) := by
                  cases e1 : getD? k kvs with
                  | some y =>
                    obtain ⟨v', g, r'⟩ := dget_ok rh ho ok rk e1
                    exact ⟨some v', g, r'⟩
                  | none => exact ⟨none, dget_no rh ho ne ok lk rk e1, rz⟩
                obtain rfl : v = Value.ref a := rx
                cases rs with
                | cons r1 rs =>
                  cases rs with
                  | cons r2 rs =>
                    cases rs
                    exact d_get2 (by omega) I g r1 r2 fun w' s4 I4 rw2 => ⟨_, H, I4, rw2, out.at rh b rw'⟩
              | _ => simp only [mthD, ho] at b
          | _ => exact False.elim b

/-! ### isinstance, of built-in types -/
def tyNm : Ty → String
  | .int => "int"
  | .bool => "bool"
  | .str => "str"
  | .tuple => "tuple"
  | .list => "list"
  | .own _ => "object"
def bltTy : Ty → Bool
  | .own _ => false
  | _ => true
def rIs (K : PySem.W.Frag) (t : Ty) : List V → Hp → VK → Prop := fun xs H Q => ∃ x d h Qd, xs = [x, .ty (tyNm t)] ∧ RelD K H d x ∧ RelH K H h ∧ isiD t d h Qd ∧ ∀ b, Qd b → Q (.bl b) H
theorem kit_dec {a b : String} {r : Bool} (h : kitB a b = some r) {K : PySem.W.Frag} : PySem.W.kitOne K (.type a) (.type b) = some r := kit_ty h
theorem isi_any (t : Ty) (ht : bltTy t = true) : CallR X (.builtin "isinstance") (fun xs H Q => ∃ x d h Qd, xs = [x, .ty (tyNm t)] ∧ RelD X.K H d x ∧ RelH X.K H h ∧ isData d h = true ∧ isiD t d h Qd ∧ ∀ b, Qd b → Q (.bl b) H) := by
  intro pins s σ H xs us Q I rs hq
  obtain ⟨x, d, h, Qd, rfl, rd, rh, dt, b, out⟩ := hq
  refine call_isi pins s σ H _ us Q I rs ?_
  have go : ∀ (a : String) (r : Bool), TyX X.K H x (.type a) → kitB a (tyNm t) = some r → Qd r → rIsi X.K [x, .ty (tyNm t)] H Q := fun a r ty k q =>
    ⟨x, .ty (tyNm t), .type a, .type (tyNm t), r, rfl, .ty _, ty, kit_ty k, out _ q⟩
  cases d with
  | non =>
    cases relNon rd
    cases t with
    | own _ => cases ht
    | _ => exact go "NoneType" false (.base .non) (by decide +kernel) b
  | bl c =>
    cases relBl rd
    cases t with
    | own _ => cases ht
    | int => exact go "bool" true (.base (.bl c)) (by decide +kernel) b
    | bool => exact go "bool" true (.base (.bl c)) (by decide +kernel) b
    | _ => exact go "bool" false (.base (.bl c)) (by decide +kernel) b
  | int i =>
    cases relInt rd
    cases t with
    | own _ => cases ht
    | int => exact go "int" true (.base (.int i)) (by decide +kernel) b
    | _ => exact go "int" false (.base (.int i)) (by decide +kernel) b
  | str z =>
    cases relStr rd
    cases t with
    | own _ => cases ht
    | str => exact go "str" true (.base (.str _)) (by decide +kernel) b
    | _ => exact go "str" false (.base (.str _)) (by decide +kernel) b
  | tup es =>
    simp only [RelD] at rd
    obtain ⟨a, vs, rfl, hv, _⟩ := rd
    have ty : TyX X.K H (.ref a) (.type "tuple") := by
      rcases hv with z | ⟨_, o, its, n, z, c, _⟩
      · exact .base (.tup z)
      · exact .kTuple z c
    cases t with
    | own _ => cases ht
    | tuple => exact go "tuple" true ty (by decide +kernel) b
    | _ => exact go "tuple" false ty (by decide +kernel) b
  | rol es =>
    simp only [RelD] at rd
    obtain ⟨a, vs, rfl, hz, _⟩ := rd
    have ty : TyX X.K H (.ref a) (.type "list") := by
      rcases hz with ⟨o, z⟩ | ⟨its, n, z, _, _⟩
      · exact .base (.frz z)
      · exact .kList z rfl
    cases t with
    | own _ => cases ht
    | list => exact go "list" true ty (by decide +kernel) b
    | _ => exact go "list" false ty (by decide +kernel) b
  | ref a =>
    cases ho : h a with
    | none => simp only [isData, ho] at dt; cases dt
    | some o =>
      cases relRef rd
      cases o with
      | lst es =>
        obtain ⟨vs, hv, _⟩ := rh a _ ho
        cases t with
        | own _ => cases ht
        | list =>
          simp only [isiD, ho] at b
          exact go "list" true (.base (.lst hv)) (by decide +kernel) (by simpa using b)
        | _ =>
          simp only [isiD, ho] at b
          exact go "list" false (.base (.lst hv)) (by decide +kernel) (by simpa using b)
      | dct kvs =>
        have ty : TyX X.K H (.ref a) (.type "dict") := by
          rcases rh a _ ho with ⟨ps, hp, _⟩ | ⟨ps, hp, _⟩
          · exact .base (.dK hp)
          · exact .base (.dT hp)
        cases t with
        | own _ => cases ht
        | _ =>
          simp only [isiD, ho] at b
          exact go "dict" false ty (by decide +kernel) b
      | _ => simp only [isData, ho] at dt; cases dt
end
end Lit
/-! Is this text that syntax? A look by computation. -/
namespace Lit
open PySem PySem.Spec PyProof.Rows L2

structure Ck where
  N : List Str
  fns : List (Str × Option Str)
  gis : List (Str × Int)
  gss : List (Str × List Nat)
  blt : List Str
  exs : List Str := []
  cls : List Str := []
  flds : List Str := []
  gts : List (Str × List (List Nat)) := []
  gds : List (Str × List (List Nat × List (List Nat))) := []

def okHead : Expr → Bool
  | .Starred .. => false
  | .Set .. => false
  | .SetComp .. => false
  | .DictComp .. => false
  | .Slice .. => false
  | _ => true
def isComp : Expr → Bool
  | .ListComp .. => true
  | _ => false
/-- a call of a name without arguments -/
def call0 : Expr → Bool
  | .Call (.Name _ _) [] [] _ => true
  | _ => false
/-- its truth is its value's -/
def plainT : Expr → Bool
  | .UnaryOp .Not _ _ => false
  | .BoolOp .. => false
  | .IfExp .. => false
  | .Compare .. => false
  | _ => true
def visB (sc : Scope) (x : Str) : Bool := match sc.names.lookup x with
  | some .local => true
  | some .cell => true
  | some .free => true
  | _ => false
def glB (sc : Scope) (x : Str) : Bool := match sc.names.lookup x with
  | some .globalImplicit => true
  | _ => false
/-- stored here: bo is a block's own scope -/
def stB (sc : Scope) (bo : Option Scope) (x : Str) : Bool := match (bo.getD sc).names.lookup x with
  | some .local => true
  | some .cell => true
  | _ => false
def noDbg (x : Str) : Bool := !(x == ("__debug__" : Str)) && !(x == ("__classdict__" : Str)) && !(x == ("__name__" : Str))
def opB : BOp → Operator → Bool
  | .add, .Add => true
  | .sub, .Sub => true
  | .mul, .Mult => true
  | .fdiv, .FloorDiv => true
  | .mod, .Mod => true
  | .pow, .Pow => true
  | _, _ => false
def coB : COp → CmpOp → Bool
  | .eq, .Eq => true
  | .ne, .NotEq => true
  | .lt, .Lt => true
  | .le, .LtE => true
  | .gt, .Gt => true
  | .ge, .GtE => true
  | .isin, .In => true
  | .notin, .NotIn => true
  | .is, .Is => true
  | .isnot, .IsNot => true
  | _, _ => false
def b1Nm : B1 → Str
  | .len => "len"
  | .sum => "sum"
  | .all => "all"
  | .any => "any"
  | .maxL => "max"
  | .minL => "min"
  | .int => "int"
  | .str => "str"
  | .repr => "repr"
  | .list _ => "list"
  | .tuple => "tuple"
  | .abs => "abs"
def b2Nm : B2 → Str
  | .max => "max"
  | .min => "min"
def tyNmS : Ty → Str
  | .int => "int"
  | .bool => "bool"
  | .str => "str"
  | .tuple => "tuple"
  | .list => "list"
  | .own c => c
def bltOk (c : Ck) (sc : Scope) (x : Str) : Bool := glB sc x && noDbg x && c.blt.contains x
/-- the fields of refusals -/
def xFlds : List Str := ["at", "row", "word", "why", "place", "hand", "number"]
/-- the fields, as the own __init__ tells them -/
def iniF : List (Str × List Str) := [("BadText", ["at"]), ("BadRow", ["row", "word"]), ("BadChange", ["at", "why"]), ("BadPaper", ["place"]), ("BadRows", ["hand", "at", "why"]), ("BadMakes", ["number"])]
/-- the classes of refusals without an own __init__ -/
def pExs : List Str := ["MarkError", "BadTree", "OutOfPlace", "NoMake", "TooGreat", "BadForm", "NoBase"]
mutual
def chkTg (c : Ck) (sc : Scope) (bo : Option Scope) : Tg → Expr → Bool
  | .nm i, .Name x _ => decide (c.N[i]? = some x) && stB sc bo x
  | .tup l, .Tuple es _ _ => chkTgs c sc bo l es
  | _, _ => false
def chkTgs (c : Ck) (sc : Scope) (bo : Option Scope) : Tg → List Expr → Bool
  | .nil, [] => true
  | .cons t l, e :: es => okHead e && chkTg c sc bo t e && chkTgs c sc bo l es
  | _, _ => false
end
def tgSlots : Tg → List Nat
  | .nm i => [i]
  | .tup l => tgSlots l
  | .nil => []
  | .cons t l => tgSlots t ++ tgSlots l
/-- as a test: its syntax is told, or its truth is its value's -/
def testOk (e : E) (x : Expr) : Bool := match e with
  | .land _ => true
  | .lor _ => true
  | .lnot _ => true
  | .cmp .. => true
  | .chain .. => true
  | .gdin .. => true
  | _ => plainT x
def isNil : E → Bool
  | .nil => true
  | _ => false
mutual
def chkE (c : Ck) (sc : Scope) : E → Expr → Bool
  | .var i, .Name x _ => decide (c.N[i]? = some x) && visB sc x && noDbg x
  | .int i, .Constant (.int j) _ _ => decide (i = j)
  | .bl i, .Constant (.bool j) _ _ => decide (i = j)
  | .str i, .Constant (.str j) _ _ => decide (mkS i = j)
  | .non, .Constant .none _ _ => true
  | .gint y i, .Name x _ => decide (y = x) && glB sc x && noDbg x && decide ((y, i) ∈ c.gis)
  | .gstr y i, .Name x _ => decide (y = x) && glB sc x && noDbg x && decide ((y, i) ∈ c.gss)
  | .frz a, x => chkE c sc a x
  | .fgt a, x => chkE c sc a x
  | .isx a t ks, .Call (.Name n _) [x, .Name tn _] [] _ => decide (n = "isinstance") && bltOk c sc n && (okHead x && chkE c sc a x) && decide (tn = t) && (if t = "ValueError" then bltOk c sc tn else glB sc tn && noDbg tn && c.exs.contains t) && ks.all (fun k => c.exs.contains k)
  | .xfld a f ks, .Attribute x n _ => decide (n = f) && (!(call0 x)) && (okHead x && chkE c sc a x) && xFlds.contains f && ks.all (fun k => c.exs.contains k)
  | .op _ o a b, .BinOp l o' r _ => opB o o' && (okHead l && chkE c sc a l) && (okHead r && chkE c sc b r)
  | .neg a, .UnaryOp .USub v _ => (okHead v && chkE c sc a v)
  | .cmp o a b, .Compare l [o'] [r] _ => coB o o' && (okHead l && chkE c sc a l) && (okHead r && chkE c sc b r)
  | .chain o o2 a b d, .Compare l [o', o2'] [m, r] _ => coB o o' && coB o2 o2' && (okHead l && chkE c sc a l) && (okHead m && chkE c sc b m) && (okHead r && chkE c sc d r)
  | .land es, .BoolOp .And vs _ => chkB c sc es vs && decide (2 ≤ vs.length)
  | .lor es, .BoolOp .Or vs _ => chkB c sc es vs && decide (2 ≤ vs.length)
  | .lnot a, .UnaryOp .Not v _ => (okHead v && testOk a v && chkE c sc a v)
  | .ife t a b, .IfExp x y z _ => (okHead x && testOk t x && chkE c sc t x) && (okHead y && chkE c sc a y) && (okHead z && chkE c sc b z)
  | .tup es, .Tuple vs _ _ => chkA c sc es vs
  | .lst _ es, .List vs _ => chkA c sc es vs
  | .dic es, .Dict ks vs _ => chkD c sc es ks vs && decide (ks.length ≤ 15)
  | .ix a i, .Subscript o s _ => (okHead o && chkE c sc a o) && (okHead s && chkE c sc i s)
  | .sl _ a lo hi, .Subscript o (.Slice l h none _) _ => (okHead o && chkE c sc a o) && (match l with
    | none => isNil lo
    | some x => okHead x && chkE c sc lo x) && (match h with
    | none => isNil hi
    | some x => okHead x && chkE c sc hi x)
  | .rev _ a, .Subscript o (.Slice none none (some (.UnaryOp .USub (.Constant (.int 1) _ _) _)) _) _ => (okHead o && chkE c sc a o)
  | .b1 f a, .Call (.Name n _) [x] [] _ => decide (n = b1Nm f) && bltOk c sc n && (okHead x && chkE c sc a x)
  | .b2 f a b, .Call (.Name n _) [x, y] [] _ => decide (n = b2Nm f) && bltOk c sc n && (okHead x && chkE c sc a x) && (okHead y && chkE c sc b y)
  | .isi a t, .Call (.Name n _) [x, .Name tn _] [] _ => decide (n = "isinstance") && bltOk c sc n && (okHead x && chkE c sc a x) && decide (tn = tyNmS t) && bltOk c sc tn && bltTy t
  | .mth m o es, .Call (.Attribute r n ap) args [] cp => decide (n = mthNm m) && (!(call0 r) && decide (m ≠ .lindex)) && (ap.endLine == cp.line) && (okHead r && chkE c sc o r) && chkA c sc es args && decide (args.length < 20)
  | .call i es, .Call (.Name f _) args [] _ => decide (c.fns[i]? = some (f, none)) && glB sc f && noDbg f && !args.isEmpty && chkA c sc es args
  | .meth i cn m o es, .Call (.Attribute r n ap) args [] cp => decide (n = m) && decide (c.fns[i]? = some (cn, some m)) && c.cls.contains cn && !(call0 r) && (ap.endLine == cp.line) && (okHead r && chkE c sc o r) && chkA c sc es args && decide (args.length < 20) && decide (m ≠ ("__init__" : Str))
  | .make i cn es, .Call (.Name f _) args [] _ => decide (f = cn) && decide (c.fns[i]? = some (cn, some ("__init__" : Str))) && c.cls.contains cn && glB sc f && noDbg f && !args.isEmpty && chkA c sc es args
  | .fld o f cs, .Attribute x n _ => decide (n = f) && (!(call0 x)) && (okHead x && chkE c sc o x) && c.flds.contains f && cs.all (fun k => c.cls.contains k)
  | .gtup y ss, .Name x _ => decide (y = x) && glB sc x && noDbg x && decide ((y, ss) ∈ c.gts)
  | .gdin neg y kvs a, .Compare l [o'] [.Name x _] _ => coB (if neg then .notin else .isin) o' && (okHead l && chkE c sc a l) && (decide (y = x) && glB sc x && noDbg x && decide ((y, kvs) ∈ c.gds))
  | .gdix y kvs a, .Subscript (.Name x _) s _ => (decide (y = x) && glB sc x && noDbg x && decide ((y, kvs) ∈ c.gds)) && (okHead s && chkE c sc a s)
  | .mkx0 x, .Call (.Name y _) [.Constant (.str _) _ _] [] _ => decide (y = x) && glB sc y && noDbg y && c.exs.contains x && pExs.contains x
  | .mkx x fs es, .Call (.Name y _) args [] _ => decide (y = x) && glB sc y && noDbg y && c.exs.contains x && decide (iniF.lookup x = some fs) && decide (fs.length ≤ 100) && !args.isEmpty && chkA c sc es args
  | .comp _ it tg vs cond elt, .ListComp e [⟨t, iter, ifs, 0⟩] scope _ =>
      chkI c sc it t iter && blkC c.N sc scope (vs.map fun i => (c.N.getD i "", i)) && chkTg c (relS scope sc) (some scope) tg t && (tgSlots tg).all (fun i => vs.contains i) && okHead iter &&
      chkC c (relS scope sc) cond ifs && (okHead e && chkE c (relS scope sc) elt e)
  | _, _ => false
def chkA (c : Ck) (sc : Scope) : E → List Expr → Bool
  | .nil, [] => true
  | .cons a r, x :: xs => (okHead x && chkE c sc a x) && chkA c sc r xs
  | _, _ => false
def chkB (c : Ck) (sc : Scope) : E → List Expr → Bool
  | .nil, [] => true
  | .cons a r, x :: xs => (okHead x && testOk a x && chkE c sc a x) && chkB c sc r xs
  | _, _ => false
def chkD (c : Ck) (sc : Scope) : E → List (Option Expr) → List Expr → Bool
  | .nil, [], [] => true
  | .cons k (.cons v r), some x :: ks, y :: vs => (okHead x && chkE c sc k x) && (okHead y && chkE c sc v y) && chkD c sc r ks vs
  | _, _, _ => false
def chkC (c : Ck) (sc : Scope) : E → List Expr → Bool
  | .nil, [] => true
  | .cons a .nil, [x] => (okHead x && testOk a x && chkE c sc a x)
  | _, _ => false
def chkI (c : Ck) (sc : Scope) : E → Expr → Expr → Bool
  | .itL e, _, x => (okHead x && chkE c sc e x)
  | .itR1 e, _, .Call (.Name n _) [x] [] _ => decide (n = "range") && bltOk c sc n && (okHead x && chkE c sc e x)
  | .itR2 a b, _, .Call (.Name n _) [x, y] [] _ => decide (n = "range") && bltOk c sc n && (okHead x && chkE c sc a x) && (okHead y && chkE c sc b y)
  | .itEL e, .Tuple _ _ _, .Call (.Name n _) [x] [] _ => decide (n = "enumerate") && bltOk c sc n && (okHead x && chkE c sc e x)
  | .itZ a b, .Tuple _ _ _, .Call (.Name n _) [x, y] [] _ => decide (n = "zip") && bltOk c sc n && (okHead x && chkE c sc a x) && (okHead y && chkE c sc b y)
  | _, _, _ => false
end
/-- how isinstance asks an instance of the class -/
structure ExA (K : PySem.W.Frag) (D : Addr) : Prop where
  cl : (PySem.W.clsIn K D).isSome = true
  ga : PySem.W.findIn K (.ref D) "__getattribute__" = some (some (.builtin "BaseException.__getattribute__"))
  gg : PySem.W.findIn K (.ref D) "__getattr__" = some none
  sb : PySem.W.subIn K (.ref D) (.type "BaseException") = some true
  ca : PySem.W.findIn K (.ref D) "__class__" = some (some (.builtin "object.__class__"))
  sp : PySem.W.specialIn K (.builtin "object.__class__") "__get__" = some (some (.builtin "getset_descriptor.__get__"))
  tk : PySem.W.takesIn K (.builtin "object.__class__") = some true
  mr : PySem.W.mroIn K D (.type "object") = some true
  hd : PySem.W.hasDictIn K D = true
  ve : PySem.W.kitOne K (.ref D) (.type "ValueError") = some true
  nf : ∀ f ∈ xFlds, PySem.W.findIn K (.ref D) f = some none
/-- what is known of a refusal's class -/
structure ExK (K : PySem.W.Frag) (mg : Str → Option Value) (x : Str) : Prop where
  g : mg x = some (.ref (He.ga K x))
  n : pExs.contains x = true → PySem.W.excIn K (He.ga K x) He.veBase "ValueError.__new__" = true
  k : PySem.W.keepIn K (.ref (He.ga K x)) = true
  s : PySem.W.subIn K (.ref (He.ga K x)) (.type "BaseException") = some true
  t : PySem.W.typeIn K (.ref (He.ga K x)) = some (.type "type")
  a : ExA K (He.ga K x)
/-- an own class: its instances' fields -/
structure ClK (K : PySem.W.Frag) (fl : List Str) (x : Str) : Prop where
  c : Cls K (He.ga K x)
  n : ∀ f ∈ fl, NoAttr K (He.ga K x) f
/-- where a def stands: a global's, a class's method, a class's __init__ -/
def FAt (K : PySem.W.Frag) (mg : Str → Option Value) (p : Str × Option Str) (fa : Addr) : Prop := match p.2 with
  | none => mg p.1 = some (.ref fa) ∧ PySem.W.keepIn K (.ref fa) = true
  | some m => if m = ("__init__" : Str) then Mk K (He.ga K p.1) fa ∧ mg p.1 = some (.ref (He.ga K p.1)) else Meth K (He.ga K p.1) m fa
/-- an __init__ runs one level deeper -/
def lvl (p : Str × Option Str) : Nat := if p.2 = some ("__init__" : Str) then 1 else 0
/-- two of them -/
structure ExP (K : PySem.W.Frag) (x y : Str) : Prop where
  m : PySem.W.exmOne K (.ref (He.ga K x)) (.ref (He.ga K y)) = some (subE x y)
  i : PySem.W.kitOne K (.ref (He.ga K x)) (.ref (He.ga K y)) = some (subE x y)
end Lit
/-! Refusals with an own __init__: MarkError.__init__(self, '..'), then the fields, as they are told. -/
namespace Lit
open PySem PySem.Spec PyProof.Rows L2
/-- X.__init__ is ValueError's -/
structure MeI (K : PySem.W.Frag) (C : Addr) : Prop where
  sg : PySem.W.specialIn K (.ref C) "__getattribute__" = some (some (.builtin "type.__getattribute__"))
  rd : PySem.W.readsIn K C (.type "type") = true
  fc : PySem.W.findCls K (.ref C) (.type "type") "__init__" = some (.val (.builtin "ValueError.__init__"))
def asgB (sc : Scope) : List Str → List Stmt → Bool
  | [], [] => true
  | f :: fs, .Assign [.Attribute (.Name s _) g _] (.Name y _) _ :: r => decide (s = "self") && decide (g = f) && decide (y = f) && visB sc f && noDbg f && asgB sc fs r
  | _, _ => false
def iniB (sc : Scope) (fs : List Str) : List Stmt → Bool
  | .Expr (.Call (.Attribute (.Name m _) i ap) [.Name s _, .Constant (.str _) _ _] [] cp) _ :: r => decide (m = "MarkError") && decide (i = "__init__") && decide (s = "self") && (ap.endLine == cp.line) && glB sc m && visB sc "self" && asgB sc fs r && !fs.isEmpty && decide (fs.length ≤ 20)
  | _ => false
theorem visB_ok {sc : Scope} {x : Str} (h : visB sc x = true) : Vis sc x := by
  unfold visB at h
  unfold Vis
  split at h
  · rename_i e; exact .inl e
  · rename_i e; exact .inr (.inl e)
  · rename_i e; exact .inr (.inr e)
  · cases h
section
variable {X : Cx}
theorem pe_meinit {C : Addr} {p1 p2 pos : Pos} {ta : TA} {a b : Expr} (hg : Gl X "MarkError") (hm : X.mg "MarkError" = some (.ref C)) (M : MeI X.K C) (hl : (p2.endLine == pos.line) = true) (ha : PA X [a, b] ta)
    (he : starEach [a, b] X.env = (false, eval a X.env) :: starEach [b] X.env) (hb : starEach [b] X.env = [(false, eval b X.env)]) :
    PE X (.Call (.Attribute (.Name "MarkError" p1) "__init__" p2) [a, b] [] pos) (tVeI X.K ta) := by
  refine ⟨fun pins s σ H Q I h => ?_⟩
  rw [arm_eval_Call]
  show wpAny _ _ (do let ov ← eval (.Name "MarkError" p1) X.env; _) _ _ _
  refine wpAny_bind (ld_glob I hg hm ?_ (by decide))
  refine wpAny_bind (wpAny_standAt ?_)
  have hform : methodCallForm ([a, b].length + ([] : List Keyword).length) (backTo pos (starEach [a, b] X.env)) (backToKw pos (keywordEach [] X.env)) = true := by
    rw [he, hb]
    rfl
  have hpos : methodCallPos true (.Name "MarkError" p1) X.env p2 pos = pure pos := by unfold methodCallPos; simp [hl]
  unfold methodCall
  rw [hform]
  refine wpAny_bind (wpAny_holding (PySem.W.method_cls I.kIn M.sg (PySem.W.cls_value I.kIn M.rd M.fc (by decide +kernel) ?_)))
  refine wpAny_bind (wpAny_of_eq hpos ?_)
  show wpAny _ _ (callWith pos (Value.builtin "ValueError.__init__") [] (backTo pos (starEach [a, b] X.env)) []) _ _ _
  refine PyProof.Rows.callWith_method1 (thn (ha.run pos pins _ σ H _ (I.tok _) h) fun us s1 ⟨vs, H1, I1, r1, a, C, ws, ev, hl, T, ea, q⟩ => ?_) he (by rw [hb]; rfl)
  subst ev
  cases r1 with
  | @cons _ u0 _ ur ra rw' =>
    obtain rfl : u0 = Value.ref a := ra
    have hlen : ur.length ≤ sizeLine := by
      rw [← Paired.length rw', sizeLine_eq]
      omega
    exact oinit_ok T I1 ea hlen fun s' J => ⟨.non, H1, J, rfl, q⟩
theorem upd_upd {H : Hp} {a : Addr} {o u : HO} : upd (upd H a o) a u = upd H a u := by
  funext b
  by_cases h : b = a
  · rw [h, upd_same, upd_same]
  · rw [upd_ne h, upd_ne h, upd_ne h]
/-- the fields behind the first one -/
theorem iasgs_ok : ∀ (fs : List Str) (i : Nat) {body : List Stmt}, asgB X.env.scope fs body = true → X.N[0]? = some ("self" : Str) → Vis X.env.scope "self" → (∀ (j : Nat) (f : Str), fs[j]? = some f → X.N[i + j]? = some f) →
    ∃ t, PSs X body t ∧ ∀ (D : Ends) (σ : L2.St) (H : Hp) (a C dx : Addr) (acc : List (Str × V)) (ys : List V), OexC X.K C → σ[0]? = some (some (.ref a)) → (∀ (j : Nat) (v : V), ys[j]? = some v → σ[i + j]? = some (some v)) → ys.length = fs.length → (∀ f ∈ fs, PySem.W.findIn X.K (.ref C) f = some none) →
      acc.length + fs.length ≤ 900 → H a = some (exo a C (some dx)) → H dx = some (exd dx acc) → dx ≠ a → D.nx σ (upd H dx (exd dx ((fs.zip ys).reverse ++ acc))) → t D σ H
  | [], i, body, h, _, _, _ => by
    cases body with
    | cons _ _ => unfold asgB at h; cases h
    | nil =>
      refine ⟨_, pss_nil, fun D σ H a C dx acc ys T h0 hy hl hn hc ea ed ne q => ?_⟩
      have e : upd H dx (exd dx acc) = H := by
        funext b
        by_cases hb : b = dx
        · rw [hb, upd_same, ed]
        · rw [upd_ne hb]
      have q2 : D.nx σ (upd H dx (exd dx acc)) := q
      rw [e] at q2
      exact q2
  | f :: fs, i, body, h, hN, hv, hi => by
    unfold asgB at h
    split at h
    · rename_i e; cases e
    · rename_i f' fs' s ps g pa y py pos r e1 
      cases e1
      simp only [Bool.and_eq_true_iff] at h
      obtain ⟨⟨⟨⟨⟨h1, h2⟩, h3⟩, h4⟩, h5⟩, h6⟩ := h
      cases of_decide_eq_true h1
      cases of_decide_eq_true h2
      cases of_decide_eq_true h3
      obtain ⟨t, pt, ht⟩ := iasgs_ok fs (i + 1) h6 hN hv fun j f e => by
        have := hi (j + 1) f (by simpa using e)
        rwa [show i + (j + 1) = i + 1 + j by omega] at this
      have hd : (f == ("__debug__" : Str)) = false ∧ (f == ("__classdict__" : Str)) = false := by
        unfold noDbg at h5
        simp only [Bool.and_eq_true_iff, Bool.not_eq_true'] at h5
        exact ⟨h5.1.1, h5.1.2⟩
      refine ⟨_, pss_cons (ps_ost (pe_var hN hv) (pe_var (hi 0 f rfl) (visB_ok h4) hd.1 hd.2)) pt, fun D σ H a C dx acc ys T h0 hy hl hn hc ea ed ne q => ?_⟩
      cases ys with
      | nil => cases hl
      | cons y ys =>
        refine ⟨y, hy 0 y rfl, .ref a, h0, a, C, rfl, T, hn f (List.mem_cons_self ..), .inr ⟨dx, acc, ea, ed, by simp at hc; omega, ?_⟩⟩
        refine ht D σ _ a C dx ((f, y) :: acc) ys T h0 (fun j v e => ?_) (by simpa using hl) (fun g hg => hn g (List.mem_cons_of_mem _ hg)) (by simp at hc ⊢; omega) (by rw [upd_ne (Ne.symm ne)]; exact ea) upd_same ne ?_
        · have := hy (j + 1) v (by simpa using e)
          rwa [show i + (j + 1) = i + 1 + j by omega] at this
        · rw [upd_upd]
          simpa using q
    · cases h
end
/-- what the own __init__ keeps -/
def spI (K : PySem.W.Frag) (C : Addr) (fs : List Str) : Sp := fun vs H Q _ => ∃ (a : Addr) (ys : List V), vs = .ref a :: ys ∧ ys.length = fs.length ∧ OexC K C ∧ (∀ f ∈ fs, PySem.W.findIn K (.ref C) f = some none) ∧ H a = some (exo a C none) ∧
  ∀ (dx : Addr) (H' : Hp), H dx = none → dx ≠ a → H' a = some (exo a C (some dx)) → H' dx = some (exd dx (fs.zip ys).reverse) → (∀ b, b ≠ a → b ≠ dx → H' b = H b) → Q .non H'
section
variable {P : Program} {w : World} {K : PySem.W.Frag} {mg : Str → Option Value} {base : Heap} {x ql : Str} {pa : Arguments} {bd : List Stmt} {sc : Scope} {f : Addr} {fd : FuncData} {C M : Addr} {fs : List Str}
theorem ini_ok (F : FunD K x ql pa bd sc [] [] f fd) (S : FnScope ("self" :: fs) ("self" :: fs) sc) (hb : iniB sc fs bd = true) (hm : mg "MarkError" = some (.ref M)) (hM : MeI K M) : FnOk P w K mg base C8.CX0 1 f fd ("self" :: fs) (spI K C fs) := by
  refine F.ok S (fun vs H Q E ⟨a, ys, e, l, _⟩ => by rw [e]; simp [l]) fun cdv A outer s H vs Q E hr ⟨a, ys, e, l, T, hn, ea, q⟩ => ?_
  subst e
  unfold iniB at hb
  split at hb
  · rename_i m pm i ap s' ps z j pz cp pe r
    simp only [Bool.and_eq_true_iff] at hb
    obtain ⟨⟨⟨⟨⟨⟨⟨⟨h1, h2⟩, h3⟩, h4⟩, h5⟩, h6⟩, h7⟩, h8⟩, h9⟩ := hb
    cases of_decide_eq_true h1
    cases of_decide_eq_true h2
    cases of_decide_eq_true h3
    have h9 := of_decide_eq_true h9
    cases fs with
    | nil => cases h8
    | cons f0 fs =>
      cases ys with
      | nil => cases l
      | cons y ys =>
        let X : Cx := cxOf C8.CX0 P w K mg base ("self" :: f0 :: fs) ql sc f cdv A outer s H E
        have hv : Vis X.env.scope "self" := visB_ok h6
        have hg : Gl X "MarkError" := by
          unfold glB at h5
          split at h5
          · rename_i e; exact e
          · cases h5
        unfold asgB at h7
        split at h7
        · rename_i e; cases e
        · rename_i f' fs' s2 ps2 g pa2 y2 py2 pos2 r2 e1
          cases e1
          simp only [Bool.and_eq_true_iff] at h7
          obtain ⟨⟨⟨⟨⟨k1, k2⟩, k3⟩, k4⟩, k5⟩, k6⟩ := h7
          cases of_decide_eq_true k1
          cases of_decide_eq_true k2
          cases of_decide_eq_true k3
          have hd : (f0 == ("__debug__" : Str)) = false ∧ (f0 == ("__classdict__" : Str)) = false := by
            unfold noDbg at k5
            simp only [Bool.and_eq_true_iff, Bool.not_eq_true'] at k5
            exact ⟨k5.1.1, k5.1.2⟩
          obtain ⟨t, pt, ht⟩ := iasgs_ok (X := X) fs 2 k6 rfl hv fun j g e => by
            show (("self" : Str) :: f0 :: fs)[2 + j]? = some g
            rw [show 2 + j = j + 1 + 1 by omega]
            simpa using e
          have p1 : PE X (.Name "self" ps) (tVar 0) := pe_var rfl hv
          have p0 := pe_meinit (X := X) (p1 := pm) (p2 := ap) (pos := cp) hg hm hM h4 (pa_cons p1 (pa_cons (pe_str (x := z) (j := j) (pos := pz)) pa_nil)) rfl rfl
          refine ⟨_, pss_cons (ps_expr p0) (pss_cons (ps_ost (pe_var (i := 0) rfl hv) (pe_var (i := 1) rfl (visB_ok k4) hd.1 hd.2)) pt), ?_⟩
          have s0 : (L2.start ("self" :: f0 :: fs) (.ref a :: y :: ys))[0]? = some (some (V.ref a)) := rfl
          have s1 : (L2.start ("self" :: f0 :: fs) (.ref a :: y :: ys))[1]? = some (some y) := rfl
          refine ⟨.ref a, s0, a, C, [V.str z], rfl, by simp, T, ea, ?_⟩
          refine ⟨y, s1, .ref a, s0, a, C, rfl, T, hn f0 (List.mem_cons_self ..), .inl ⟨ea, fun dx nd ne => ?_⟩⟩
          refine ht _ _ _ a C dx [(f0, y)] ys T s0 (fun j v e => ?_) (by simpa using l) (fun g hg => hn g (List.mem_cons_of_mem _ hg)) (by simp at h9 ⊢; omega) upd_same (by rw [upd_ne ne, upd_same]) ne ?_
          · show (L2.start ("self" :: f0 :: fs) (.ref a :: y :: ys))[2 + j]? = _
            unfold L2.start
            rw [List.getElem?_append_left (by have := (List.getElem?_eq_some_iff.mp e).1; simp; omega), List.getElem?_map, show 2 + j = j + 1 + 1 by omega]
            simp [e]
          · refine q dx _ nd ne ?_ ?_ fun b n1 n2 => ?_
            · rw [upd_ne (Ne.symm ne), upd_same]
            · rw [upd_same]
              simp
            · rw [upd_ne n2, upd_ne n1, upd_ne n2]
        · cases h7
  · cases hb
/-- what is known of a refusal's own __init__ -/
structure OwnI (P : Program) (w : World) (K : PySem.W.Frag) (mg : Str → Option Value) (base : Heap) (x : Str) (fs : List Str) : Prop where
  fn : ∃ fd, FnOk P w K mg base C8.CX0 1 (He.ma K (He.ga K x) "__init__") fd ("self" :: fs) (spI K (He.ga K x) fs) ∧ Binds K fd ("self" :: fs) []
  ox : OexC K (He.ga K x)
  at_ : PySem.W.findIn K (.ref (He.ga K x)) "__init__" = some (some (.ref (He.ma K (He.ga K x) "__init__")))
  ty : PySem.W.typeIn K (.ref (He.ma K (He.ga K x) "__init__")) = some (.type "function")
  nf : ∀ f ∈ fs, PySem.W.findIn K (.ref (He.ga K x)) f = some none
end
/-- by a look -/
def oexB (K : PySem.W.Frag) (C : Addr) : Bool := (match K.lookup C with
  | some ⟨.type "type", _, .cls cd, sl⟩ => (match cd.mro, sl.toList with
    | .ref C' :: bm, [_, _, _, _, some (.builtin n), _] => C' == C && n == "ValueError.__new__" && !cd.hasDel && cd.hasDict && PySem.HandSPX.refsVE bm
    | _, _ => false)
  | _ => false) && decide (PySem.W.findIn K (.ref C) "__setattr__" = some (some (.builtin "object.__setattr__"))) && decide (PySem.W.subIn K (.ref C) (.type "BaseException") = some true) && decide (PySem.W.typeIn K (.ref C) = some (.type "type")) && PySem.W.keepIn K (.ref C)
theorem oexB_ok {K : PySem.W.Frag} {C : Addr} (h : oexB K C = true) : OexC K C := by
  unfold oexB at h
  simp only [Bool.and_eq_true_iff] at h
  obtain ⟨⟨⟨⟨q, h1⟩, h2⟩, h3⟩, h4⟩ := h
  refine ⟨?_, of_decide_eq_true h1, of_decide_eq_true h2, of_decide_eq_true h3, h4⟩
  split at q
  · rename_i dd cd sl ho
    split at q
    · rename_i C' bm k0 k1 k2 k3 n k5 hm hs
      simp only [Bool.and_eq_true, beq_iff_eq, Bool.not_eq_true'] at q
      obtain ⟨⟨⟨⟨rfl, rfl⟩, hdel⟩, hdc⟩, ht⟩ := q
      obtain ⟨nm, bs, mro, ns, qn, hd, sn, sub, ab, col, del⟩ := cd
      dsimp only at hm hdel hdc
      subst hm hdel hdc
      have hsl : sl = #[k0, k1, k2, k3, some (.builtin "ValueError.__new__"), k5] := by
        obtain ⟨l⟩ := sl
        simp only at hs
        rw [hs]
      subst hsl
      exact ⟨nm, qn, ns, bs, bm, sn, sub, ab, col, dd, k0, k1, k2, k3, k5, ho, ht⟩
    · cases q
  · cases q
def meB (K : PySem.W.Frag) (C : Addr) : Bool := decide (PySem.W.specialIn K (.ref C) "__getattribute__" = some (some (.builtin "type.__getattribute__"))) && PySem.W.readsIn K C (.type "type") && (match PySem.W.findCls K (.ref C) (.type "type") "__init__" with
  | some (.val (.builtin n)) => n == "ValueError.__init__"
  | _ => false)
theorem meB_ok {K : PySem.W.Frag} {C : Addr} (h : meB K C = true) : MeI K C := by
  unfold meB at h
  simp only [Bool.and_eq_true_iff] at h
  obtain ⟨⟨h1, h2⟩, h3⟩ := h
  refine ⟨of_decide_eq_true h1, h2, ?_⟩
  split at h3
  · rename_i n e
    rw [e, beq_iff_eq.mp h3]
  · cases h3
end Lit
/-! Readings of told values, as readings of the layer. -/
namespace Lit
open PySem PySem.Spec PyProof.Rows L2

def RelX (K : PySem.W.Frag) (H : Hp) (x : Exc) (cls : Value) (dd : Option Addr) : Prop :=
  cls = .ref (He.ga K x.cls) ∧ ((dd = none ∧ x.fs = []) ∨ ∃ a vs, dd = some a ∧ H a = some (.xd vs) ∧ RelF K H x.fs vs)
def OutX (K : PySem.W.Frag) (W : WX) (σ : L2.St) (H : Hp) (h : PH) (xq : XQ) : Prop := ∀ x h' cls dd H', xq x h' → RelX K H' x cls dd → RelH K H' h' → Frm H h H' h' → W cls dd σ H'
def OutT (K : PySem.W.Frag) (H : Hp) (h : PH) (Qd : Bool → PH → Prop) (Q : Bool → Hp → Prop) : Prop := ∀ b h' H', Qd b h' → RelH K H' h' → Frm H h H' h' → Q b H'
def OutA (K : PySem.W.Frag) (H : Hp) (h : PH) (Qd : List D → PH → Prop) (Q : List V → Hp → Prop) : Prop := ∀ ds h' vs H', Qd ds h' → RelDs K H' ds vs → RelH K H' h' → Frm H h H' h' → Q vs H'
def liftE (K : PySem.W.Frag) (W : WX) (r : RE) : TE := fun σ H Q => ∃ ρ h xq Qd, RelS K H ρ σ ∧ RelH K H h ∧ r ρ h xq Qd ∧ Out K H h Qd Q ∧ OutX K W σ H h xq
def liftT (K : PySem.W.Frag) (W : WX) (r : RT) : TT := fun σ H Q => ∃ ρ h xq Qd, RelS K H ρ σ ∧ RelH K H h ∧ r ρ h xq Qd ∧ OutT K H h Qd Q ∧ OutX K W σ H h xq
def liftA (K : PySem.W.Frag) (W : WX) (r : RA) : TA := fun σ H Q => ∃ ρ h xq Qd, RelS K H ρ σ ∧ RelH K H h ∧ r ρ h xq Qd ∧ OutA K H h Qd Q ∧ OutX K W σ H h xq

/-- a walk over told items -/
def WalkD (K : PySem.W.Frag) (H1 : Hp) (h1 : PH) (J : It) (items : List D) (stay : PH → Prop) : Prop :=
  stay h1 ∧ ∃ (G : Hp → Prop) (Y : Nat → Hp → V → Hp → Prop), Walk J items.length G Y ∧ (∀ H h, Frm H1 h1 H h → RelH K H h → stay h → G H) ∧
    ∀ i H h x H', i < items.length → Frm H1 h1 H h → RelH K H h → stay h → Y i H x H' → ∃ d, items[i]? = some d ∧ RelD K H' d x ∧ RelH K H' h ∧ Frm H h H' h
def liftI (K : PySem.W.Frag) (W : WX) (r : RI) : TI := fun σ H R => ∃ ρ h xq Ri, RelS K H ρ σ ∧ RelH K H h ∧ r ρ h xq Ri ∧
  (∀ items stay h' J H', Ri items stay h' → WalkD K H' h' J items stay → RelH K H' h' → Frm H h H' h' → R J H') ∧ OutX K W σ H h xq

section
variable {K : PySem.W.Frag} {W : WX} {σ : L2.St} {H H1 : Hp} {h h1 : PH} {xq : XQ}
theorem Out.step {Qd : D → PH → Prop} {Q : VK} (o : Out K H h Qd Q) (f : Frm H h H1 h1) : Out K H1 h1 Qd Q := fun r h' v H' q a b c => o r h' v H' q a b (f.trans c)
theorem OutX.step (o : OutX K W σ H h xq) (f : Frm H h H1 h1) : OutX K W σ H1 h1 xq := fun x h' cls dd H' q a b c => o x h' cls dd H' q a b (f.trans c)
theorem OutT.step {Qd : Bool → PH → Prop} {Q : Bool → Hp → Prop} (o : OutT K H h Qd Q) (f : Frm H h H1 h1) : OutT K H1 h1 Qd Q := fun r h' H' q b c => o r h' H' q b (f.trans c)
theorem OutA.step {Qd : List D → PH → Prop} {Q : List V → Hp → Prop} (o : OutA K H h Qd Q) (f : Frm H h H1 h1) : OutA K H1 h1 Qd Q := fun r h' v H' q a b c => o r h' v H' q a b (f.trans c)
theorem OutX.none : OutX K W σ H h noX := fun _ _ _ _ _ q => q.elim

/-- a reading, then what is done with its value -/
theorem liftE.bind {ra : RE} {ρ : Rho} {Q : VK} {P : D → PH → Prop} (rs : RelS K H ρ σ) (rh : RelH K H h) (q : ra ρ h xq P) (ox : OutX K W σ H h xq)
    (k : ∀ d h1 v H1, P d h1 → RelD K H1 d v → RelH K H1 h1 → Frm H h H1 h1 → Keeps H H1 → RelS K H1 ρ σ → OutX K W σ H1 h1 xq → Q v H1) : liftE K W ra σ H Q :=
  ⟨ρ, h, xq, P, rs, rh, q, fun d h1 v H1 p a b c => k d h1 v H1 p a b c (c.keeps rh) (rs.keep (c.keeps rh)) (ox.step c), ox⟩
theorem liftA.bind {ra : RA} {ρ : Rho} {Q : List V → Hp → Prop} {P : List D → PH → Prop} (rs : RelS K H ρ σ) (rh : RelH K H h) (q : ra ρ h xq P) (ox : OutX K W σ H h xq)
    (k : ∀ d h1 v H1, P d h1 → RelDs K H1 d v → RelH K H1 h1 → Frm H h H1 h1 → Keeps H H1 → RelS K H1 ρ σ → OutX K W σ H1 h1 xq → Q v H1) : liftA K W ra σ H Q :=
  ⟨ρ, h, xq, P, rs, rh, q, fun d h1 v H1 p a b c => k d h1 v H1 p a b c (c.keeps rh) (rs.keep (c.keeps rh)) (ox.step c), ox⟩
theorem liftT.bind {ra : RT} {ρ : Rho} {Q : Bool → Hp → Prop} {P : Bool → PH → Prop} (rs : RelS K H ρ σ) (rh : RelH K H h) (q : ra ρ h xq P) (ox : OutX K W σ H h xq)
    (k : ∀ b h1 H1, P b h1 → RelH K H1 h1 → Frm H h H1 h1 → Keeps H H1 → RelS K H1 ρ σ → OutX K W σ H1 h1 xq → Q b H1) : liftT K W ra σ H Q :=
  ⟨ρ, h, xq, P, rs, rh, q, fun d h1 H1 p b c => k d h1 H1 p b c (c.keeps rh) (rs.keep (c.keeps rh)) (ox.step c), ox⟩
theorem liftI.bind {ra : RI} {ρ : Rho} {R : It → Hp → Prop} {P : List D → (PH → Prop) → PH → Prop} (rs : RelS K H ρ σ) (rh : RelH K H h) (q : ra ρ h xq P) (ox : OutX K W σ H h xq)
    (k : ∀ items stay h1 J H1, P items stay h1 → WalkD K H1 h1 J items stay → RelH K H1 h1 → Frm H h H1 h1 → Keeps H H1 → RelS K H1 ρ σ → OutX K W σ H1 h1 xq → R J H1) : liftI K W ra σ H R :=
  ⟨ρ, h, xq, P, rs, rh, q, fun d st h1 J H1 p a b c => k d st h1 J H1 p a b c (c.keeps rh) (rs.keep (c.keeps rh)) (ox.step c), ox⟩
end
theorem _root_.L2.PE.lift {X : Cx} {e : Expr} {t t' : TE} (p : PE X e t) (h : ∀ σ H Q, t' σ H Q → t σ H Q) : PE X e t' := ⟨fun pins s σ H Q I q => p.run pins s σ H Q I (h σ H Q q)⟩
theorem _root_.L2.PT.lift {X : Cx} {e : Expr} {t t' : TT} (p : PT X e t) (h : ∀ σ H Q, t' σ H Q → t σ H Q) : PT X e t' := ⟨fun pins s σ H Q I q => p.run pins s σ H Q I (h σ H Q q)⟩
theorem _root_.L2.PW.lift {X : Cx} {e : Expr} {t t' : TT} (p : PW X e t) (h : ∀ σ H Q, t' σ H Q → t σ H Q) : PW X e t' := ⟨fun wh pins s σ H Q I q => p.run wh pins s σ H Q I (h σ H Q q)⟩
theorem _root_.L2.PA.lift {X : Cx} {e : List Expr} {t t' : TA} (p : PA X e t) (h : ∀ σ H Q, t' σ H Q → t σ H Q) : PA X e t' := ⟨fun pos pins s σ H Q I q => p.run pos pins s σ H Q I (h σ H Q q)⟩
theorem _root_.L2.PI.lift {X : Cx} {tg e : Expr} {t t' : TI} (p : PI X tg e t) (h : ∀ σ H Q, t' σ H Q → t σ H Q) : PI X tg e t' := ⟨fun pins s σ H Q I q => p.run pins s σ H Q I (h σ H Q q)⟩
theorem _root_.L2.PSs.lift {X : Cx} {e : List Stmt} {t t' : TS} (p : PSs X e t) (h : ∀ D σ H, t' D σ H → t D σ H) : PSs X e t' := ⟨fun pins s σ H D I q => p.run pins s σ H D I (h D σ H q)⟩
theorem _root_.L2.PS.lift {X : Cx} {e : Stmt} {t t' : TS} (p : PS X e t) (h : ∀ D σ H, t' D σ H → t D σ H) : PS X e t' := ⟨fun pins s σ H D I q => p.run pins s σ H D I (h D σ H q)⟩

/-! ### what a def keeps, with the guards told -/
structure FnG (P : Program) (w : World) (K : PySem.W.Frag) (mg : Str → Option Value) (base : Heap) (k : Nat) (f : Addr) (fd : FuncData) (ps : List Str) (sp : Sp) : Prop where
  len : ∀ vs H Q E, sp vs H Q E → vs.length = ps.length
  go : ∀ (A : Around) (outer : List Env) (s : Shared) (H : Hp) (args : Args) (us : List Value) (vs : List V) (Q : VK) (E : XK), A.guards = some [] → Room k A → Env0 P w K mg base A outer s H → BindsTo s fd args (ps.zip us) → Vals vs us →
    sp vs H Q E → codeAny (model P w) A (.call (.ref f) args) (CR (L2.CX P w) outer P w H s Q E) s
def liftSp (K : PySem.W.Frag) (sp : DSp) : Sp := fun vs H Q E => ∃ ds h X0 Q0, RelDs K H ds vs ∧ RelH K H h ∧ sp ds h X0 Q0 ∧ Out K H h Q0 Q ∧
  ∀ x h' cls dd H', X0 x h' → RelX K H' x cls dd → RelH K H' h' → Frm H h H' h' → E cls dd H'

/-- the promises that a text leans on -/
structure Sig where
  fns : List ((Str × Option Str) × DSp)
  gis : List (Str × Int)
  gss : List (Str × List Nat)
  blt : List Str
  exs : List Str := []
  cls : List Str := []
  flds : List Str := []
  gts : List (Str × List (List Nat)) := []
  gds : List (Str × List (List Nat × List (List Nat))) := []
/-- a constant of the module: a tuple of texts -/
structure KTp (K : PySem.W.Frag) (a : Addr) (ss : List (List Nat)) : Prop where
  ne : ss ≠ []
  at_ : ∃ (o : Obj) (its : Array Value) (n : Nat), K.lookup a = some o ∧ o.cls = .type "tuple" ∧ o.data = .seq its n ∧ its.size ≤ sizeLine ∧ Vals (ss.map fun s => V.str (mkS s)) its.toList
theorem KTp.rel {K : PySem.W.Frag} {a : Addr} {ss : List (List Nat)} (k : KTp K a ss) (H : Hp) : RelD K H (.tup (ss.map D.str)) (.ref a) := by
  simp only [RelD]
  refine ⟨a, _, rfl, .inr ⟨?_, k.at_⟩, ?_⟩
  · have all : ∀ l : List (List Nat), allS (l.map D.str) = true := fun l => by
      induction l with
      | nil => rfl
      | cons s l ih => simp only [List.map_cons, allS, ih]
    cases ss with
    | nil => exact absurd rfl k.ne
    | cons s l =>
      unfold keyOk
      simp only [List.map_cons, strs1, all, Bool.not_true, Bool.and_false]
  · induction ss with
    | nil => simp only [List.map_nil, RelDs]
    | cons s l ih =>
      have rec_ : ∀ l : List (List Nat), RelDs K H (l.map D.str) (l.map fun s => V.str (mkS s)) := fun l => by
        induction l with
        | nil => simp only [List.map_nil, RelDs]
        | cons s l ih => exact .cons (by simp only [RelD]) ih
      exact rec_ (s :: l)
/-- .. a dict from texts to such tuples -/
structure KDx (K : PySem.W.Frag) (w : World) (a : Addr) (kvs : List (List Nat × List (List Nat))) : Prop where
  d : ∃ es n, KDict K w a es n
  yes : ∀ s ss, kvs.lookup s = some ss → ∃ T, PySem.W.nsIn K a (mkS s) = some (some (.ref T)) ∧ KTp K T ss
  no : ∀ s, kvs.lookup s = none → PySem.W.nsIn K a (mkS s) = some none
def Sig.sps (G : Sig) : List DSp := G.fns.map (·.2)
def Sig.ck (G : Sig) (N : List Str) : Ck := ⟨N, G.fns.map (·.1), G.gis, G.gss, G.blt, G.exs, G.cls, G.flds, G.gts, G.gds⟩
structure Ctx (X : Cx) (W : WX) (k : Nat) (G : Sig) : Prop where
  calm : X.calm = true
  nd : X.N.Nodup
  tk : Takes X W
  gd : X.A.guards = some []
  room : Room k X.A
  fns : ∀ (i : Nat) (f : Str × Option Str) (sp : DSp), G.fns[i]? = some (f, sp) → ∃ fa fd ps j, j + lvl f ≤ k ∧ FAt X.K X.mg f fa ∧
    FnG X.prog X.w X.K X.mg X.base j fa fd ps (liftSp X.K sp) ∧ Binds X.K fd ps []
  blt : ∀ x ∈ G.blt, X.mg x = none
  gis : ∀ x i, (x, i) ∈ G.gis → ∃ t, X.mg x = some (.int i t)
  gss : ∀ x s, (x, s) ∈ G.gss → ∃ t, X.mg x = some (.str (mkS s) t)
  exs : ∀ x ∈ G.exs, ExK X.K X.mg x
  exp : ∀ x ∈ G.exs, ∀ y ∈ G.exs, ExP X.K x y
  cls : ∀ x ∈ G.cls, ClK X.K G.flds x
  own : ∀ x ∈ G.exs, ∀ fs, iniF.lookup x = some fs → 2 ≤ k ∧ OwnI X.prog X.w X.K X.mg X.base x fs
  gts : ∀ x ss, (x, ss) ∈ G.gts → ∃ a, X.mg x = some (.ref a) ∧ KTp X.K a ss
  gds : ∀ x kvs, (x, kvs) ∈ G.gds → ∃ a, X.mg x = some (.ref a) ∧ KDx X.K X.w a kvs
theorem Ctx.blk {X : Cx} {W : WX} {k : Nat} {G : Sig} (c : Ctx X W k G) (s : Shared) (H : Hp) (scope : Scope) (ce : Env) (fp : List Addr) : Ctx (X.blk s H scope ce fp) (fun _ _ _ _ => False) k G :=
  ⟨c.calm, c.nd, takes0, c.gd, c.room, c.fns, c.blt, c.gis, c.gss, c.exs, c.exp, c.cls, c.own, c.gts, c.gds⟩

/-! ### the call of a def of the text -/
section
variable {X : Cx} {W : WX} {k : Nat} {G : Sig}
theorem run_def {j : Nat} {fa : Addr} {fd : FuncData} {ps : List Str} {sp : Sp} {pins : List (Addr × Obj)} {σ : L2.St} {H : Hp} {s : Shared} {Q : VK} {us : List Value} {vs : List V} (c : Ctx X W k G) (hj : j ≤ k)
    (F : FnG X.prog X.w X.K X.mg X.base j fa fd ps sp) (hb : Binds X.K fd ps []) (I : Inv X pins σ H s) (r : Vals vs us) (h : sp vs H Q (WE W σ)) :
    wpAny (model X.prog X.w) X.A (call (.ref fa) us) (EP X pins σ Q) X.xe s := by
  have nus : us.length = ps.length := r.length.symm.trans (F.len _ _ _ _ h)
  have bd : BindsTo s fd ⟨us, []⟩ (ps.zip us) := by
    have z := hb s us I.kIn (by rw [List.append_nil]; exact nus)
    rwa [List.append_nil] at z
  have run := F.go X.A X.stack s H ⟨us, []⟩ us vs Q (WE W σ) c.gd (c.room.mono hj) I.env0 bd r h
  refine wpAny_call (codeAny_mono run ?_)
  intro res s2 e
  match res, e with
  | .error x, e => exact passAt c.tk σ pins H s x s2 I e
  | .ok (.ret v), e => exact I.after e
theorem pe_def {i : Nat} {f : Str} {p pos : Pos} {e : Expr} {es : List Expr} {ra : RA} (c : Ctx X W k G) (hi : (G.fns.map (·.1))[i]? = some (f, none)) (hg : Gl X f) (ha : PA X (e :: es) (liftA X.K W ra))
    (hd : (f == ("__debug__" : Str)) = false) (he : starEach (e :: es) X.env = (false, eval e X.env) :: starEach es X.env) (hp : (backTo pos (starEach es X.env)).any (·.1) = false) :
    PE X (.Call (.Name f p) (e :: es) [] pos) (liftE X.K W fun ρ h xq Q => ra ρ h xq fun ds h1 => spAt G.sps i ds h1 xq Q) := by
  rw [List.getElem?_map] at hi
  cases ei : G.fns[i]? with
  | none => rw [ei] at hi; cases hi
  | some q =>
    obtain ⟨f', sp⟩ := q
    rw [ei] at hi
    cases hi
    obtain ⟨fa, fd, ps, j, hj, ⟨hm, hk⟩, F, hb⟩ := c.fns i _ sp ei
    have hj : j ≤ k := Nat.le_trans (Nat.le_add_right _ _) hj
    have es' : G.sps[i]? = some sp := by unfold Sig.sps; rw [List.getElem?_map, ei]; rfl
    constructor
    intro pins s σ H Q I ⟨ρ, h, xq, Qd, rs, rh, q, out, ox⟩
    refine wpAny_Call_Name_kw (ld_glob I hg hm ?_ hd)
    refine PySem.W.callWith_K (h₀ := X.base) I.ok.mod.kin hk (thn (ha.run pos pins s σ H (fun vs H1 => liftSp X.K sp vs H1 Q (WE W σ)) I ?_) fun us s1 ⟨vs, H1, I1, r, q1⟩ => ⟨I1.kIn, run_def c hj F hb I1 r q1⟩) he hp
    refine liftA.bind rs rh q ox fun ds h1 vs H1 p1 r1 rh1 f1 _ _ ox1 => ?_
    have p2 : spAt G.sps i ds h1 xq Qd := p1
    simp only [spAt, es'] at p2
    obtain ⟨X0, Q0, p3, kx, kq⟩ := p2
    exact ⟨ds, h1, X0, Q0, r1, rh1, p3, fun r' h' v H' q' a b cc => out r' h' v H' (kq _ _ q') a b (f1.trans cc), fun x h' cls dd H' q' a b cc => ox1 x h' cls dd H' (kx _ _ q') a b cc⟩
end
end Lit
namespace Lit
open PySem PySem.Spec PyProof.Rows L2

/-! ### side conditions of the layer's rules -/
theorem star_ok {x : Expr} (h : okHead x = true) (xs : List Expr) (env : Env) : starEach (x :: xs) env = (false, eval x env) :: starEach xs env := by
  cases x <;> first | rfl | cases h
theorem mark_ok {x : Expr} (h : okHead x = true) (op : CmpOp) : behindInMarks op x = false := by
  cases x <;> first | rfl | cases h
theorem plainIx_ok {x : Expr} (h : okHead x = true) : PlainIx x := by
  intro o i
  cases x <;> first | rfl | cases h
theorem folded_ok {x : Expr} (h : okHead x = true) (env : Env) : ∀ v, foldedSetIterable x env v = pure v := by
  intro v
  cases x <;> first | rfl | cases h
theorem isTrue_ok {x : Expr} (h : plainT x = true) (env : Env) : ∀ whole, isTrue x env whole = (do let v ← whole; standAt x.pos; holding [v] (truthy v)) := by
  intro whole
  cases x with
  | UnaryOp op a p => cases op <;> first | rfl | cases h
  | BoolOp _ _ _ => cases h
  | IfExp _ _ _ _ => cases h
  | Compare _ _ _ _ => cases h
  | _ => rfl
theorem base_ok {x : Expr} (h : call0 x = false) (n : Str) (env : Env) (t : Sem Value) : attributeBase x n env t = t := by
  unfold attributeBase
  split
  · cases h
  · rfl
theorem bang {b : Bool} (h : (!b) = true) : b = false := by cases b <;> first | rfl | cases h
theorem an {a b : Bool} (h : (a && b) = true) : a = true ∧ b = true := Bool.and_eq_true_iff.mp h
theorem vis_ok {sc : Scope} {x : Str} (h : visB sc x = true) : Vis sc x := by
  unfold visB at h
  unfold Vis
  split at h
  · rename_i e; exact .inl e
  · rename_i e; exact .inr (.inl e)
  · rename_i e; exact .inr (.inr e)
  · cases h
theorem gl_ok {X : Cx} {x : Str} (h : glB X.env.scope x = true) : Gl X x := by
  unfold glB at h
  split at h
  · rename_i e; exact e
  · cases h
theorem noDbg_ok {x : Str} (h : noDbg x = true) : (x == ("__debug__" : Str)) = false ∧ (x == ("__classdict__" : Str)) = false ∧ x ≠ "__name__" := by
  unfold noDbg at h
  obtain ⟨h1, h2⟩ := an h
  obtain ⟨h3, h4⟩ := an h1
  refine ⟨bang h3, bang h4, fun e => ?_⟩
  have z := bang h2
  rw [e] at z
  exact absurd z (by decide +kernel)
theorem op_ok {o : BOp} {o' : Operator} (h : opB o o' = true) : o' = toOp o := by
  cases o <;> cases o' <;> first | rfl | cases h
theorem co_ok {o : COp} {o' : CmpOp} (h : coB o o' = true) : o' = toC o := by
  cases o <;> cases o' <;> first | rfl | cases h
section
variable {c : Ck} {sc : Scope}
theorem chkA_star : ∀ {es : E} {xs : List Expr}, chkA c sc es xs = true → ∀ (pos : Pos) (env : Env), (backTo pos (starEach xs env)).any (·.1) = false
  | .nil, [], _, _, _ => rfl
  | .cons a r, x :: xs, h, pos, env => by
    simp only [chkA] at h
    obtain ⟨h1, h2⟩ := an h
    obtain ⟨h3, _⟩ := an h1
    rw [star_ok h3]
    have ih := chkA_star h2 pos env
    show ((backTo pos ((false, eval x env) :: starEach xs env)).any (·.1)) = false
    simp only [backTo, List.map_cons, List.any_cons] at ih ⊢
    rw [ih]
    rfl
  | .cons _ _, [], h, _, _ => by simp only [chkA] at h; cases h
  | .nil, _ :: _, h, _, _ => by simp only [chkA] at h; cases h
theorem chkA_head {a r : E} {x : Expr} {xs : List Expr} (h : chkA c sc (.cons a r) (x :: xs) = true) : okHead x = true ∧ chkE c sc a x = true ∧ chkA c sc r xs = true := by
  simp only [chkA] at h
  obtain ⟨h1, h2⟩ := an h
  obtain ⟨h3, h4⟩ := an h1
  exact ⟨h3, h4, h2⟩
theorem stars_all : ∀ {es : E} {xs : List Expr}, chkA c sc es xs = true → ∀ (pos : Pos) (env : Env), (backTo pos (starEach xs env)).all (fun x => !x.1) = true := fun {es xs} h pos env => by
  have z := chkA_star h pos env
  rw [List.all_eq_true]
  intro y hy
  rw [List.any_eq_false] at z
  have := z y hy
  simpa using this
theorem chkA_nil {es : E} (h : chkA c sc es [] = true) : es = .nil := by
  cases es <;> first | rfl | (simp only [chkA] at h; cases h)
theorem chkA_ncons {es : E} {x : Expr} {xs : List Expr} (h : chkA c sc es (x :: xs) = true) : ∃ a r, es = .cons a r := by
  cases es <;> first | exact ⟨_, _, rfl⟩ | (simp only [chkA] at h; cases h)
end
section
variable {X : Cx} {W : WX} {k : Nat} {G : Sig}
theorem Ctx.u64 (c : Ctx X W k G) : X.A.units + 64 < cLine := c.room.units
theorem bltOk_ok {N : List Str} (c : Ctx X W k G) {x : Str} (h : bltOk (G.ck N) X.env.scope x = true) : Gl X x ∧ X.mg x = none ∧ (x == ("__debug__" : Str)) = false ∧ x ≠ "__name__" := by
  unfold bltOk at h
  obtain ⟨h1, h2⟩ := an h
  obtain ⟨h3, h4⟩ := an h1
  obtain ⟨d1, _, d3⟩ := noDbg_ok h4
  exact ⟨gl_ok h3, c.blt x (by simpa [Sig.ck] using h2), d1, d3⟩

/-! ### expressions by their parts -/
theorem s_frz {a : Expr} {ra : RE} (ha : PE X a (liftE X.K W ra)) : PE X a (liftE X.K W fun ρ h xq Q => ra ρ h xq (frzK Q)) := by
  refine ha.fr.lift fun σ H Q ⟨ρ, h, xq, Qd, rs, rh, q, out, ox⟩ => ?_
  refine liftE.bind rs rh q ox fun x h1 v1 H1 q1 r1 rh1 f1 k1 rs1 ox1 => ?_
  exact out.frz q1 r1 rh1 f1
theorem OutX.fgt {K : PySem.W.Frag} {σ : L2.St} {H : Hp} {h : PH} {xq : XQ} (o : OutX K W σ H h xq) : OutX K W σ H h (fgtX xq) := fun x h' cls dd H' ⟨h2, e2, q⟩ a b f =>
  o x h2 cls dd H' q a (fun b' u e => b b' u (e2 b' u e)) fun b' u e n => by
    obtain ⟨f1, f2⟩ := f b' u e n
    refine ⟨f1, ?_⟩
    cases e3 : h2 b' with
    | none => rfl
    | some w => rw [e2 b' w e3] at f2; cases f2
theorem s_fgt {a : Expr} {ra : RE} (ha : PE X a (liftE X.K W ra)) : PE X a (liftE X.K W fun ρ h xq Q => ra ρ h (fgtX xq) fun d h1 => ∃ h2, Ext h2 h1 ∧ Q d h2) := by
  refine ha.lift fun σ H Q ⟨ρ, h, xq, Qd, rs, rh, q, out, ox⟩ => ?_
  refine liftE.bind rs rh q ox.fgt fun x h1 v1 H1 q1 r1 rh1 f1 k1 rs1 ox1 => ?_
  exact out.fgt q1 r1 rh1 f1
theorem s_op {fz : Bool} {o : BOp} {a b : Expr} {pos : Pos} {ra rb : RE} (ha : PE X a (liftE X.K W ra)) (hb : PE X b (liftE X.K W rb)) :
    PE X (.BinOp a (toOp o) b pos) (liftE X.K W fun ρ h xq Q => ra ρ h xq fun x h1 => rb ρ h1 xq fun y h2 => binD fz o x y h2 Q) := by
  refine (pe_op (op_bin fz o) ha hb).lift fun σ H Q ⟨ρ, h, xq, Qd, rs, rh, q, out, ox⟩ => ?_
  refine liftE.bind rs rh q ox fun x h1 v1 H1 q1 r1 rh1 f1 k1 rs1 ox1 => ?_
  refine liftE.bind rs1 rh1 q1 ox1 fun y h2 v2 H2 q2 r2 rh2 f2 k2 _ _ => ?_
  exact ⟨x, y, h2, Qd, r1.keep k2, r2, rh2, q2, out.step (f1.trans f2)⟩
theorem s_cmp (c : Ctx X W k G) {o : COp} {a b : Expr} {pos : Pos} {ra rb : RE} (ha : PE X a (liftE X.K W ra)) (hb : PE X b (liftE X.K W rb)) (hm : okHead b = true) :
    PE X (.Compare a [toC o] [b] pos) (liftE X.K W fun ρ h xq Q => ra ρ h xq fun x h1 => rb ρ h1 xq fun y h2 => cmpD o x y h2 fun k => Q (.bl k) h2) := by
  refine (pe_cmpR (op_cmp c.u64 o) ha hb (mark_ok hm _)).lift fun σ H Q ⟨ρ, h, xq, Qd, rs, rh, q, out, ox⟩ => ?_
  refine liftE.bind rs rh q ox fun x h1 v1 H1 q1 r1 rh1 f1 k1 rs1 ox1 => ?_
  refine liftE.bind rs1 rh1 q1 ox1 fun y h2 v2 H2 q2 r2 rh2 f2 k2 _ _ => ?_
  exact ⟨x, y, h2, fun k => Qd (.bl k) h2, r1.keep k2, r2, rh2, q2, fun b qb => (out.step (f1.trans f2)).bl rh2 qb⟩
theorem s_cmpT (c : Ctx X W k G) {o : COp} {a b : Expr} {pos : Pos} {ra rb : RE} (ha : PE X a (liftE X.K W ra)) (hb : PE X b (liftE X.K W rb)) (hm : okHead b = true) :
    PT X (.Compare a [toC o] [b] pos) (liftT X.K W fun ρ h xq Q => ra ρ h xq fun x h1 => rb ρ h1 xq fun y h2 => cmpD o x y h2 fun k => Q k h2) := by
  refine (pt_cmpR (op_cmp c.u64 o) ha hb (mark_ok hm _)).lift fun σ H Q ⟨ρ, h, xq, Qd, rs, rh, q, out, ox⟩ => ?_
  refine liftE.bind rs rh q ox fun x h1 v1 H1 q1 r1 rh1 f1 k1 rs1 ox1 => ?_
  refine liftE.bind rs1 rh1 q1 ox1 fun y h2 v2 H2 q2 r2 rh2 f2 k2 _ _ => ?_
  exact ⟨x, y, h2, fun k => Qd k h2, r1.keep k2, r2, rh2, q2, fun b qb => ⟨b, rfl, out _ _ _ qb rh2 (f1.trans f2)⟩⟩
theorem marks2 {op op' : CmpOp} {b d : Expr} (h : okHead d = true) : lastMarks [op, op'] [b, d] = false := by
  show behindInMarks op' d = false
  exact mark_ok h op'
theorem chain_core {K : PySem.W.Frag} {σ : L2.St} {H : Hp} {Q : VK} {o o' : COp} {ra rb rd : RE} {ρ : Rho} {h : PH} {xq : XQ} {P : Bool → PH → Prop} (rs : RelS K H ρ σ) (rh : RelH K H h) (ox : OutX K W σ H h xq)
    (q : ra ρ h xq fun x h1 => rb ρ h1 xq fun y h2 => cmpD o x y h2 fun k => match k with
      | true => rd ρ h2 xq fun z h3 => cmpD o' y z h3 fun k => P k h3
      | false => P false h2)
    (out : ∀ b h' H', P b h' → RelH K H' h' → Frm H h H' h' → Q (.bl b) H') : tChain (rCmp K o) (rCmp K o') (liftE K W ra) (liftE K W rb) (liftE K W rd) σ H Q := by
  refine liftE.bind rs rh q ox fun x h1 v1 H1 q1 r1 rh1 f1 k1 rs1 ox1 => ?_
  refine liftE.bind rs1 rh1 q1 ox1 fun y h2 v2 H2 q2 r2 rh2 f2 k2 rs2 ox2 => ?_
  refine ⟨x, y, h2, _, r1.keep k2, r2, rh2, q2, fun b qb => ⟨b, rfl, ?_⟩⟩
  cases b with
  | false => exact iteF (out false h2 H2 qb rh2 (f1.trans f2))
  | true =>
    refine iteT (liftE.bind rs2 rh2 qb ox2 fun z h3 v3 H3 q3 r3 rh3 f3 k3 _ _ => ?_)
    exact ⟨y, z, h3, fun k => P k h3, r2.keep k3, r3, rh3, q3, fun b qb => out b h3 H3 qb rh3 ((f1.trans f2).trans f3)⟩
theorem s_chain (c : Ctx X W k G) {o o' : COp} {a b d : Expr} {pos : Pos} {ra rb rd : RE} (ha : PE X a (liftE X.K W ra)) (hb : PE X b (liftE X.K W rb)) (hd : PE X d (liftE X.K W rd)) (hm : okHead d = true) :
    PE X (.Compare a [toC o, toC o'] [b, d] pos) (liftE X.K W fun ρ h xq Q => ra ρ h xq fun x h1 => rb ρ h1 xq fun y h2 => cmpD o x y h2 fun k => match k with
      | true => rd ρ h2 xq fun z h3 => cmpD o' y z h3 fun k => Q (.bl k) h3
      | false => Q (.bl false) h2) := by
  refine (pe_chain (op_cmp c.u64 o) (op_cmp c.u64 o') ha hb hd (marks2 hm)).lift fun σ H Q ⟨ρ, h, xq, Qd, rs, rh, q, out, ox⟩ => ?_
  exact chain_core (P := fun k h => Qd (.bl k) h) rs rh ox q fun b h' H' qb r f => out _ _ _ _ qb rfl r f
theorem s_chainT (c : Ctx X W k G) {o o' : COp} {a b d : Expr} {pos : Pos} {ra rb rd : RE} (ha : PE X a (liftE X.K W ra)) (hb : PE X b (liftE X.K W rb)) (hd : PE X d (liftE X.K W rd)) (hm : okHead d = true) :
    PT X (.Compare a [toC o, toC o'] [b, d] pos) (liftT X.K W fun ρ h xq Q => ra ρ h xq fun x h1 => rb ρ h1 xq fun y h2 => cmpD o x y h2 fun k => match k with
      | true => rd ρ h2 xq fun z h3 => cmpD o' y z h3 fun k => Q k h3
      | false => Q false h2) := by
  refine (pt_chain (op_cmp c.u64 o) (op_cmp c.u64 o') ha hb hd (marks2 hm)).lift fun σ H Q ⟨ρ, h, xq, Qd, rs, rh, q, out, ox⟩ => ?_
  exact chain_core (P := fun k h => Qd k h) rs rh ox q fun b h' H' qb r f => ⟨b, rfl, out b h' H' qb r f⟩
/-- by truth, as a test -/
theorem s_truth {a : Expr} {ra : RE} (ha : PE X a (liftE X.K W ra)) (hp : plainT a = true) : PT X a (liftT X.K W fun ρ h xq Q => ra ρ h xq fun x h1 => truQ h1 x fun k => Q k h1) := by
  refine (pt_truth ha (isTrue_ok hp _)).lift fun σ H Q ⟨ρ, h, xq, Qd, rs, rh, q, out, ox⟩ => ?_
  refine liftE.bind rs rh q ox fun x h1 v1 H1 q1 r1 rh1 f1 k1 rs1 ox1 => ?_
  obtain ⟨b, t, p⟩ := tru_is rh1 r1 q1
  exact ⟨b, t, out b h1 H1 p rh1 f1⟩
theorem s_not {a : Expr} {pos : Pos} {ra : RE} (ha : PE X a (liftE X.K W ra)) : PE X (.UnaryOp .Not a pos) (liftE X.K W fun ρ h xq Q => ra ρ h xq fun x h1 => truQ h1 x fun b => Q (.bl (!b)) h1) := by
  refine (pe_notT ha).lift fun σ H Q ⟨ρ, h, xq, Qd, rs, rh, q, out, ox⟩ => ?_
  refine liftE.bind rs rh q ox fun x h1 v1 H1 q1 r1 rh1 f1 k1 rs1 ox1 => ?_
  obtain ⟨b, t, p⟩ := tru_is rh1 r1 q1
  exact ⟨b, t, out _ h1 _ H1 p rfl rh1 f1⟩
theorem s_notT {a : Expr} {pos : Pos} {ra : RT} (ha : PT X a (liftT X.K W ra)) : PT X (.UnaryOp .Not a pos) (liftT X.K W fun ρ h xq Q => ra ρ h xq fun b h1 => Q (!b) h1) := by
  refine (pt_not ha).lift fun σ H Q ⟨ρ, h, xq, Qd, rs, rh, q, out, ox⟩ => ?_
  exact liftT.bind rs rh q ox fun b h1 H1 q1 rh1 f1 _ _ _ => out _ h1 H1 q1 rh1 f1
theorem s_ife {t a b : Expr} {pos : Pos} {rt : RT} {ra rb : RE} (ht : PT X t (liftT X.K W rt)) (ha : PE X a (liftE X.K W ra)) (hb : PE X b (liftE X.K W rb)) :
    PE X (.IfExp t a b pos) (liftE X.K W fun ρ h xq Q => rt ρ h xq fun k h1 => match k with
      | true => ra ρ h1 xq Q
      | false => rb ρ h1 xq Q) := by
  refine (pe_ifExp ht ha hb).lift fun σ H Q ⟨ρ, h, xq, Qd, rs, rh, q, out, ox⟩ => ?_
  refine liftT.bind rs rh q ox fun k h1 H1 q1 rh1 f1 _ rs1 ox1 => ?_
  cases k with
  | true => exact iteT ⟨ρ, h1, xq, Qd, rs1, rh1, q1, out.step f1, ox1⟩
  | false => exact iteF ⟨ρ, h1, xq, Qd, rs1, rh1, q1, out.step f1, ox1⟩
theorem s_tup {es : List Expr} {n : Nat} {pos : Pos} {ra : RA} (ha : PA X es (liftA X.K W ra)) : PE X (.Tuple es n pos) (liftE X.K W fun ρ h xq Q => ra ρ h xq fun ds h1 => ds.length ≤ sizeLine ∧ Q (.tup ds) h1) := by
  refine (pe_tup ha).lift fun σ H Q ⟨ρ, h, xq, Qd, rs, rh, q, out, ox⟩ => ?_
  refine liftA.bind rs rh q ox fun ds h1 vs H1 q1 r1 rh1 f1 k1 rs1 ox1 => ?_
  exact ⟨by rw [r1.len]; exact q1.1, fun p hp => (out.step f1).tup rh1 hp q1.2 r1⟩
theorem s_lst {fz : Bool} {es : List Expr} {pos : Pos} {ra : RA} (ha : PA X es (liftA X.K W ra)) : PE X (.List es pos) (liftE X.K W fun ρ h xq Q => ra ρ h xq fun ds h1 => ds.length ≤ sizeLine ∧ newL fz ds h1 Q) := by
  refine (pe_lst ha).fr.lift fun σ H Q ⟨ρ, h, xq, Qd, rs, rh, q, out, ox⟩ => ?_
  refine liftA.bind rs rh q ox fun ds h1 vs H1 q1 r1 rh1 f1 k1 rs1 ox1 => ?_
  exact ⟨by rw [r1.len]; exact q1.1, fun p hp => (out.step f1).newL rh1 hp q1.2 r1⟩
theorem s_ix (c : Ctx X W k G) {a b : Expr} {pos : Pos} {ra rb : RE} (ha : PE X a (liftE X.K W ra)) (hb : PE X b (liftE X.K W rb)) (hm : okHead b = true) :
    PE X (.Subscript a b pos) (liftE X.K W fun ρ h xq Q => ra ρ h xq fun x h1 => rb ρ h1 xq fun y h2 => ixD x y h2 Q) := by
  refine (pe_ix (ix_any c.u64) ha hb (plainIx_ok hm)).lift fun σ H Q ⟨ρ, h, xq, Qd, rs, rh, q, out, ox⟩ => ?_
  refine liftE.bind rs rh q ox fun x h1 v1 H1 q1 r1 rh1 f1 k1 rs1 ox1 => ?_
  refine liftE.bind rs1 rh1 q1 ox1 fun y h2 v2 H2 q2 r2 rh2 f2 k2 _ _ => ?_
  exact ⟨x, y, h2, Qd, r1.keep k2, r2, rh2, q2, out.step (f1.trans f2)⟩
def liftO (K : PySem.W.Frag) (W : WX) (r : Rho → PH → XQ → (Option Int → PH → Prop) → Prop) : TO := fun σ H Q => ∃ ρ h xq Qd, RelS K H ρ σ ∧ RelH K H h ∧ r ρ h xq Qd ∧ (∀ i h' H', Qd i h' → RelH K H' h' → Frm H h H' h' → Q i H') ∧ OutX K W σ H h xq
theorem s_none : L2.PO X none (liftO X.K W fun _ h _ Q => Q none h) := by
  constructor
  intro pins s σ H Q I ⟨ρ, h, xq, Qd, rs, rh, q, out, ox⟩
  exact po_none.run pins s σ H Q I (out none h H q rh Frm.refl)
theorem s_some {a : Expr} {ra : RE} (ha : PE X a (liftE X.K W ra)) : L2.PO X (some a) (liftO X.K W fun ρ h xq Q => ra ρ h xq fun x h1 => match x with
    | .int i => Q (some i) h1
    | _ => False) := by
  constructor
  intro pins s σ H Q I ⟨ρ, h, xq, Qd, rs, rh, q, out, ox⟩
  refine (po_some ha).run pins s σ H Q I ?_
  refine liftE.bind rs rh q ox fun x h1 v1 H1 q1 r1 rh1 f1 k1 rs1 ox1 => ?_
  cases x with
  | int i => exact ⟨i, relInt r1, out _ _ _ q1 rh1 f1⟩
  | _ => exact q1.elim
theorem s_sl {fz : Bool} {a : Expr} {lo hi : Option Expr} {p2 pos : Pos} {ra : RE} {rl rh' : Rho → PH → XQ → (Option Int → PH → Prop) → Prop} (ha : PE X a (liftE X.K W ra)) (hl : L2.PO X lo (liftO X.K W rl)) (hh : L2.PO X hi (liftO X.K W rh')) :
    PE X (.Subscript a (.Slice lo hi none p2) pos) (liftE X.K W fun ρ h xq Q => ra ρ h xq fun x h1 => rl ρ h1 xq fun l h2 => rh' ρ h2 xq fun u h3 => slD fz x l u h3 Q) := by
  refine (pe_slice (sl_any fz) ha hl hh).lift fun σ H Q ⟨ρ, h, xq, Qd, rs, rh, q, out, ox⟩ => ?_
  refine liftE.bind rs rh q ox fun x h1 v1 H1 q1 r1 rh1 f1 k1 rs1 ox1 => ?_
  refine ⟨ρ, h1, xq, _, rs1, rh1, q1, fun l h2 H2 q2 rh2 f2 => ?_, ox1⟩
  have k2 := f2.keeps rh1
  refine ⟨ρ, h2, xq, _, rs1.keep k2, rh2, q2, fun u h3 H3 q3 rh3 f3 => ?_, ox1.step f2⟩
  have k3 := f3.keeps rh2
  exact ⟨x, h3, Qd, (r1.keep k2).keep k3, rh3, q3, out.step ((f1.trans f2).trans f3)⟩
theorem s_rev {fz : Bool} {a : Expr} {n : Nat} {p1 p2 p3 pos : Pos} {ra : RE} (ha : PE X a (liftE X.K W ra)) :
    PE X (.Subscript a (.Slice none none (some (.UnaryOp .USub (.Constant (.int 1) n p1) p2)) p3) pos) (liftE X.K W fun ρ h xq Q => ra ρ h xq fun x h1 => match rdL h1 x with
      | some ds => newL fz ds.reverse h1 Q
      | none => False) := by
  refine (pe_revL ha).fr.lift fun σ H Q ⟨ρ, h, xq, Qd, rs, rh, q, out, ox⟩ => ?_
  refine liftE.bind rs rh q ox fun x h1 v1 H1 q1 r1 rh1 f1 k1 rs1 ox1 => ?_
  cases e1 : rdL h1 x with
  | none => rw [e1] at q1; exact q1.elim
  | some ds =>
    rw [e1] at q1
    obtain ⟨b, vs, rfl, hs, rv⟩ := rdL_ok rh1 r1 e1
    exact ⟨b, vs, rfl, hs, fun p hp => (out.step f1).newL rh1 hp q1 rv.reverse⟩
/-- a call of a built-in with one value -/
theorem s_b1 {f : B1} {a : Expr} {x : Str} {p pos : Pos} {id : String} {ra : RE} (hr : CallR X (.builtin id) (rB1 X.K f)) (hg : Gl X x) (hm : X.mg x = none) (hv : bootBuiltins x = some (.builtin id)) (hn : x ≠ "__name__") (hd : (x == ("__debug__" : Str)) = false)
    (ha : PE X a (liftE X.K W ra)) (ok : okHead a = true) : PE X (.Call (.Name x p) [a] [] pos) (liftE X.K W fun ρ h xq Q => ra ρ h xq fun y h1 => b1D f y h1 Q) := by
  refine (pe_callB hr hg hm hv (pa_cons ha pa_nil (star_ok ok _ _)) hn hd (star_ok ok _ _) rfl).lift fun σ H Q ⟨ρ, h, xq, Qd, rs, rh, q, out, ox⟩ => ?_
  refine liftE.bind rs rh q ox fun y h1 v1 H1 q1 r1 rh1 f1 k1 rs1 ox1 => ?_
  exact ⟨v1, y, h1, Qd, rfl, r1, rh1, q1, out.step f1⟩
theorem s_b1t {f : B1} {a : Expr} {x : Str} {p pos : Pos} {T : String} {ra : RE} (hr : CallR X (.type T) (rB1 X.K f)) (hg : Gl X x) (hm : X.mg x = none) (hv : bootBuiltins x = some (.type T)) (hn : x ≠ "__name__") (hd : (x == ("__debug__" : Str)) = false)
    (ha : PE X a (liftE X.K W ra)) (ok : okHead a = true) : PE X (.Call (.Name x p) [a] [] pos) (liftE X.K W fun ρ h xq Q => ra ρ h xq fun y h1 => b1D f y h1 Q) := by
  refine (pe_callTy hr hg hm hv (pa_cons ha pa_nil (star_ok ok _ _)) hn hd (star_ok ok _ _) rfl).lift fun σ H Q ⟨ρ, h, xq, Qd, rs, rh, q, out, ox⟩ => ?_
  refine liftE.bind rs rh q ox fun y h1 v1 H1 q1 r1 rh1 f1 k1 rs1 ox1 => ?_
  exact ⟨v1, y, h1, Qd, rfl, r1, rh1, q1, out.step f1⟩
theorem s_b1any (c : Ctx X W k G) (f : B1) {a : Expr} {p pos : Pos} {ra : RE} (h : bltOk (G.ck X.N) X.env.scope (b1Nm f) = true) (ha : PE X a (liftE X.K W ra)) (ok : okHead a = true) :
    PE X (.Call (.Name (b1Nm f) p) [a] [] pos) (liftE X.K W fun ρ h xq Q => ra ρ h xq fun y h1 => b1D f y h1 Q) := by
  obtain ⟨hg, hm, hd, hn⟩ := bltOk_ok c h
  cases f with
  | len => exact s_b1 (id := "len") b1_len hg hm (by decide +kernel) hn hd ha ok
  | sum => exact s_b1 (id := "sum") (b1_sum c.calm) hg hm (by decide +kernel) hn hd ha ok
  | all => exact s_b1 (id := "all") (b1_all c.calm) hg hm (by decide +kernel) hn hd ha ok
  | any => exact s_b1 (id := "any") (b1_any c.calm) hg hm (by decide +kernel) hn hd ha ok
  | maxL => exact s_b1 (id := "max") (b1_max c.calm c.u64) hg hm (by decide +kernel) hn hd ha ok
  | minL => exact s_b1 (id := "min") (b1_min c.calm c.u64) hg hm (by decide +kernel) hn hd ha ok
  | int => exact s_b1t (T := "int") b1_int hg hm (by decide +kernel) hn hd ha ok
  | str => exact s_b1t (T := "str") b1_str hg hm (by decide +kernel) hn hd ha ok
  | repr => exact s_b1 (id := "repr") (b1_repr c.u64 c.gd) hg hm (by decide +kernel) hn hd ha ok
  | abs => exact s_b1 (id := "abs") b1_abs hg hm (by decide +kernel) hn hd ha ok
  | list fz => exact s_b1t (T := "list") (b1_list fz) hg hm (by show bootBuiltins "list" = _; decide +kernel) hn hd ha ok
  | tuple => exact s_b1t (T := "tuple") b1_tuple hg hm (by decide +kernel) hn hd ha ok
theorem pa2 {a b : Expr} {ra rb : RE} (ha : PE X a (liftE X.K W ra)) (hb : PE X b (liftE X.K W rb)) (oa : okHead a = true) (ob : okHead b = true) : PA X [a, b] (tCons (liftE X.K W ra) (tCons (liftE X.K W rb) tNil)) :=
  pa_cons ha (pa_cons hb pa_nil (star_ok ob _ _)) (star_ok oa _ _)
theorem plain1 {b : Expr} (ob : okHead b = true) (pos : Pos) (env : Env) : (backTo pos (starEach [b] env)).any (·.1) = false := by
  rw [star_ok ob]
  rfl
theorem s_b2any (c : Ctx X W k G) (f : B2) {a b : Expr} {p pos : Pos} {ra rb : RE} (h : bltOk (G.ck X.N) X.env.scope (b2Nm f) = true) (ha : PE X a (liftE X.K W ra)) (hb : PE X b (liftE X.K W rb)) (oa : okHead a = true) (ob : okHead b = true) :
    PE X (.Call (.Name (b2Nm f) p) [a, b] [] pos) (liftE X.K W fun ρ h xq Q => ra ρ h xq fun x h1 => rb ρ h1 xq fun y h2 => b2D f x y h2 Q) := by
  obtain ⟨hg, hm, hd, hn⟩ := bltOk_ok c h
  have go : ∀ id, bootBuiltins (b2Nm f) = some (.builtin id) → CallR X (.builtin id) (rB2 X.K f) → PE X (.Call (.Name (b2Nm f) p) [a, b] [] pos) (liftE X.K W fun ρ h xq Q => ra ρ h xq fun x h1 => rb ρ h1 xq fun y h2 => b2D f x y h2 Q) := fun id hv hr => by
    refine (pe_callB hr hg hm hv (pa2 ha hb oa ob) hn hd (star_ok oa _ _) (plain1 ob _ _)).lift fun σ H Q ⟨ρ, h, xq, Qd, rs, rh, q, out, ox⟩ => ?_
    refine liftE.bind rs rh q ox fun x h1 v1 H1 q1 r1 rh1 f1 k1 rs1 ox1 => ?_
    refine liftE.bind rs1 rh1 q1 ox1 fun y h2 v2 H2 q2 r2 rh2 f2 k2 _ _ => ?_
    exact ⟨v1, v2, x, y, h2, Qd, rfl, r1.keep k2, r2, rh2, q2, out.step (f1.trans f2)⟩
  cases f with
  | max => exact go "max" (by decide +kernel) (b2_max c.calm)
  | min => exact go "min" (by decide +kernel) (b2_min c.calm)
theorem s_isi (c : Ctx X W k G) (t : Ty) (ht : bltTy t = true) {a : Expr} {p p2 pos : Pos} {ra : RE} (h : bltOk (G.ck X.N) X.env.scope "isinstance" = true) (h2 : bltOk (G.ck X.N) X.env.scope (tyNmS t) = true) (ha : PE X a (liftE X.K W ra)) (oa : okHead a = true) :
    PE X (.Call (.Name "isinstance" p) [a, .Name (tyNmS t) p2] [] pos) (liftE X.K W fun ρ h xq Q => ra ρ h xq fun x h1 => isData x h1 = true ∧ isiD t x h1 fun k => Q (.bl k) h1) := by
  obtain ⟨hg, hm, hd, hn⟩ := bltOk_ok c h
  obtain ⟨hg2, hm2, hd2, hn2⟩ := bltOk_ok c h2
  have hv2 : bootBuiltins (tyNmS t) = some (.type (tyNm t)) := by cases t <;> first | decide +kernel | cases ht
  have pt : PE X (.Name (tyNmS t) p2) (tC (.ty (tyNm t))) := pe_bltn hg2 hm2 hv2 rfl hn2 hd2
  refine (pe_callB (isi_any t ht) hg hm (by decide +kernel) (pa_cons ha (pa_cons pt pa_nil) (star_ok oa _ _)) hn hd (star_ok oa _ _) rfl).lift fun σ H Q ⟨ρ, h, xq, Qd, rs, rh, q, out, ox⟩ => ?_
  refine liftE.bind rs rh q ox fun x h1 v1 H1 q1 r1 rh1 f1 k1 rs1 ox1 => ?_
  exact ⟨v1, x, h1, fun k => Qd (.bl k) h1, rfl, r1, rh1, q1.1, q1.2, fun b qb => (out.step f1).bl rh1 qb⟩
/-- a method of a built-in type -/
theorem s_mth0 (c : Ctx X W k G) (m : Mth) (hm : m ≠ .lindex) {o : Expr} {ap cp : Pos} {ro : RE} (ho : PE X o (liftE X.K W ro)) (hb : call0 o = false) (hl : (ap.endLine == cp.line) = true) :
    PE X (.Call (.Attribute o (mthNm m) ap) [] [] cp) (liftE X.K W fun ρ h xq Q => ro ρ h xq fun x h1 => tyB m x h1 = true ∧ mthD m x [] h1 Q) := by
  refine (pe_bm0 (mth_attrs m) (mth_slot m) (mth_type m) (mth_any c.u64 m hm) ho (base_ok hb _ _ _) hl).lift fun σ H Q ⟨ρ, h, xq, Qd, rs, rh, q, out, ox⟩ => ?_
  refine liftE.bind rs rh q ox fun x h1 v1 H1 q1 r1 rh1 f1 k1 rs1 ox1 => ?_
  exact ⟨tyB_ok rh1 r1 q1.1, x, [], h1, Qd, r1, .nil, rh1, q1.2, out.step f1⟩
theorem few_ok {c : Ck} {sc : Scope} {es : E} {x : Expr} {xs : List Expr} (h : chkA c sc es (x :: xs) = true) (hn : (x :: xs).length < 20) (pos : Pos) (env : Env) :
    ((backTo pos (starEach (x :: xs) env)).all (fun x => !x.1) && (backToKw pos (keywordEach [] env)).all (fun x => x.1.isSome) && decide ((x :: xs).length + ([] : List Keyword).length + (if ([] : List Keyword).isEmpty then 0 else 1) < 30)) = true := by
  rw [stars_all h pos env]
  have z : (x :: xs).length + 0 + 0 < 30 := by omega
  show (true && true && decide ((x :: xs).length + 0 + 0 < 30)) = true
  rw [decide_eq_true z]
  rfl
theorem s_mth (c : Ctx X W k G) (m : Mth) (hm : m ≠ .lindex) {o e : Expr} {es : List Expr} {ap cp : Pos} {ro : RE} {ra : RA} {ir : E} {sc : Scope} (ho : PE X o (liftE X.K W ro)) (hb : call0 o = false) (hl : (ap.endLine == cp.line) = true)
    (hA : chkA (G.ck X.N) sc ir (e :: es) = true) (hn : (e :: es).length < 20) (ha : PA X (e :: es) (liftA X.K W ra)) :
    PE X (.Call (.Attribute o (mthNm m) ap) (e :: es) [] cp) (liftE X.K W fun ρ h xq Q => ro ρ h xq fun x h1 => tyB m x h1 = true ∧ ra ρ h1 xq fun ds h2 => mthD m x ds h2 Q) := by
  obtain ⟨a, r, rfl⟩ := chkA_ncons hA
  obtain ⟨oe, _, hr⟩ := chkA_head hA
  refine (pe_bm (mth_attrs m) (mth_slot m) (mth_type m) (mth_any c.u64 m hm) ho ha (base_ok hb _ _ _) (few_ok hA hn _ _) hl (star_ok oe _ _) (chkA_star hr _ _)).lift fun σ H Q ⟨ρ, h, xq, Qd, rs, rh, q, out, ox⟩ => ?_
  refine liftE.bind rs rh q ox fun x h1 v1 H1 q1 r1 rh1 f1 k1 rs1 ox1 => ?_
  refine ⟨tyB_ok rh1 r1 q1.1, liftA.bind rs1 rh1 q1.2 ox1 fun ds h2 vs H2 q2 r2 rh2 f2 k2 _ _ => ?_⟩
  exact ⟨x, ds, h2, Qd, r1.keep k2, r2, rh2, q2, out.step (f1.trans f2)⟩

/-! ### and, or -/
theorem s_andV {a b : Expr} {rest : List Expr} {pos : Pos} {ra rb : RE} (ha : PE X a (liftE X.K W ra)) (hb : PE X (.BoolOp .And (b :: rest) pos) (liftE X.K W rb)) :
    PE X (.BoolOp .And (a :: b :: rest) pos) (liftE X.K W fun ρ h xq Q => ra ρ h xq fun x h1 => truQ h1 x fun k => match k with
      | true => rb ρ h1 xq Q
      | false => Q x h1) := by
  refine (pe_andT ha hb).lift fun σ H Q ⟨ρ, h, xq, Qd, rs, rh, q, out, ox⟩ => ?_
  refine liftE.bind rs rh q ox fun x h1 v1 H1 q1 r1 rh1 f1 k1 rs1 ox1 => ?_
  obtain ⟨b, t, p⟩ := tru_is rh1 r1 q1
  refine ⟨b, t, ?_⟩
  cases b with
  | true => exact iteT ⟨ρ, h1, xq, Qd, rs1, rh1, p, out.step f1, ox1⟩
  | false => exact iteF (out x h1 v1 H1 p r1 rh1 f1)
theorem s_orV {a b : Expr} {rest : List Expr} {pos : Pos} {ra rb : RE} (ha : PE X a (liftE X.K W ra)) (hb : PE X (.BoolOp .Or (b :: rest) pos) (liftE X.K W rb)) :
    PE X (.BoolOp .Or (a :: b :: rest) pos) (liftE X.K W fun ρ h xq Q => ra ρ h xq fun x h1 => truQ h1 x fun k => match k with
      | true => Q x h1
      | false => rb ρ h1 xq Q) := by
  refine (pe_orT ha hb).lift fun σ H Q ⟨ρ, h, xq, Qd, rs, rh, q, out, ox⟩ => ?_
  refine liftE.bind rs rh q ox fun x h1 v1 H1 q1 r1 rh1 f1 k1 rs1 ox1 => ?_
  obtain ⟨b, t, p⟩ := tru_is rh1 r1 q1
  refine ⟨b, t, ?_⟩
  cases b with
  | true => exact iteT (out x h1 v1 H1 p r1 rh1 f1)
  | false => exact iteF ⟨ρ, h1, xq, Qd, rs1, rh1, p, out.step f1, ox1⟩
theorem s_andT {a b : Expr} {rest : List Expr} {pos : Pos} {ra rb : RT} (ha : PT X a (liftT X.K W ra)) (hb : PW X (.BoolOp .And (b :: rest) pos) (liftT X.K W rb)) :
    PW X (.BoolOp .And (a :: b :: rest) pos) (liftT X.K W fun ρ h xq Q => ra ρ h xq fun k h1 => match k with
      | true => rb ρ h1 xq Q
      | false => Q false h1) := by
  refine (pw_and ha hb).lift fun σ H Q ⟨ρ, h, xq, Qd, rs, rh, q, out, ox⟩ => ?_
  refine liftT.bind rs rh q ox fun b h1 H1 q1 rh1 f1 _ rs1 ox1 => ?_
  cases b with
  | true => exact iteT ⟨ρ, h1, xq, Qd, rs1, rh1, q1, out.step f1, ox1⟩
  | false => exact iteF (out _ h1 H1 q1 rh1 f1)
theorem s_orT {a b : Expr} {rest : List Expr} {pos : Pos} {ra rb : RT} (ha : PT X a (liftT X.K W ra)) (hb : PW X (.BoolOp .Or (b :: rest) pos) (liftT X.K W rb)) :
    PW X (.BoolOp .Or (a :: b :: rest) pos) (liftT X.K W fun ρ h xq Q => ra ρ h xq fun k h1 => match k with
      | true => Q true h1
      | false => rb ρ h1 xq Q) := by
  refine (pw_or ha hb).lift fun σ H Q ⟨ρ, h, xq, Qd, rs, rh, q, out, ox⟩ => ?_
  refine liftT.bind rs rh q ox fun b h1 H1 q1 rh1 f1 _ rs1 ox1 => ?_
  cases b with
  | true => exact iteT (out _ h1 H1 q1 rh1 f1)
  | false => exact iteF ⟨ρ, h1, xq, Qd, rs1, rh1, q1, out.step f1, ox1⟩
theorem s_nil : PA X [] (liftA X.K W fun _ h _ Q => Q [] h) := pa_nil.lift fun σ H Q ⟨ρ, h, xq, Qd, rs, rh, q, out, ox⟩ => out [] h [] H q .nil rh Frm.refl
theorem s_cons {x : Expr} {xs : List Expr} {ra : RE} {rr : RA} (ha : PE X x (liftE X.K W ra)) (hr : PA X xs (liftA X.K W rr)) (ok : okHead x = true) :
    PA X (x :: xs) (liftA X.K W fun ρ h xq Q => ra ρ h xq fun y h1 => rr ρ h1 xq fun ys h2 => Q (y :: ys) h2) := by
  refine (pa_cons ha hr (star_ok ok _ _)).lift fun σ H Q ⟨ρ, h, xq, Qd, rs, rh, q, out, ox⟩ => ?_
  refine liftE.bind rs rh q ox fun y h1 v1 H1 q1 r1 rh1 f1 k1 rs1 ox1 => ?_
  refine liftA.bind rs1 rh1 q1 ox1 fun ys h2 vs H2 q2 r2 rh2 f2 k2 _ _ => ?_
  exact out (y :: ys) h2 (v1 :: vs) H2 q2 (.cons (r1.keep k2) r2) rh2 (f1.trans f2)
/-- a value that hangs on no place and no heap -/
theorem s_val {x : Expr} {d : D} {v : V} (h : PE X x (tC v)) (r : ∀ H, RelD X.K H d v) : PE X x (liftE X.K W fun _ h _ Q => Q d h) :=
  h.lift fun σ H Q ⟨ρ, h, xq, Qd, rs, rh, q, out, ox⟩ => out d h v H q (r H) rh Frm.refl
theorem s_var {i : Nat} {x : Str} {pos : Pos} (hN : X.N[i]? = some x) (hv : Vis X.env.scope x) (hd : (x == ("__debug__" : Str)) = false) (hc : (x == ("__classdict__" : Str)) = false) : PE X (.Name x pos) (liftE X.K W fun ρ h _ Q => match ρ[i]? with
    | some (some d) => Q d h
    | _ => False) := by
  refine (pe_var hN hv hd hc).lift fun σ H Q ⟨ρ, h, xq, Qd, rs, rh, q, out, ox⟩ => ?_
  have q2 : (match ρ[i]? with
    | some (some d) => Qd d h
    | _ => False) := q
  cases e : ρ[i]? with
  | none => rw [e] at q2; exact q2.elim
  | some o =>
    cases o with
    | none => rw [e] at q2; exact q2.elim
    | some d =>
      rw [e] at q2
      obtain ⟨v, hv, r⟩ := rs.2 i d e
      exact ⟨v, hv, out d h v H q2 r rh Frm.refl⟩
theorem s_neg {a : Expr} {pos : Pos} {ra : RE} (ha : PE X a (liftE X.K W ra)) : PE X (.UnaryOp .USub a pos) (liftE X.K W fun ρ h xq Q => ra ρ h xq fun x h1 => match x with
    | .int i => Q (.int (-i)) h1
    | _ => False) := by
  refine (pe_un un_neg ha).lift fun σ H Q ⟨ρ, h, xq, Qd, rs, rh, q, out, ox⟩ => ?_
  refine liftE.bind rs rh q ox fun x h1 v1 H1 q1 r1 rh1 f1 k1 rs1 ox1 => ?_
  cases x with
  | int i => exact ⟨i, relInt r1, (out.step f1).int rh1 q1⟩
  | _ => exact q1.elim
end
end Lit
/-! isinstance and fields of a told exception. -/
namespace Lit
open PySem PySem.Spec PyProof.Rows L2
section
variable {X : Cx} {pins : List (Addr × Obj)} {σ : L2.St} {H : Hp} {s : Shared}
/-- a tracked exception, as the library looks at it -/
theorem exv_inst {a D : Addr} {d : Option Addr} (I : Inv X pins σ H s) (e : H a = some (ExV (.ref D) d a)) (hd : d = none ∨ ∃ dd vs, d = some dd ∧ H dd = some (.xd vs)) :
    ∃ oe od, PySem.W.InstAt s.heap a oe D od ∧ oe.dict = d ∧ ∀ dd vs, d = some dd → H dd = some (.xd vs) → ∃ o, od = some o ∧ ∃ mA : Str → Option Value, (∀ f, L2.RelO (vs.lookup f) (mA f)) ∧ ∀ name, PySem.W.lookIn name o = some (mA name) := by
  obtain ⟨⟨oe, g1, ⟨z1, z2⟩, ws, g3⟩, _, _⟩ := I.hok a _ e
  have no : PySem.W.notCls oe = true := by unfold PySem.W.notCls; rw [g3] <;> rfl
  rcases hd with rfl | ⟨dd, vs, rfl, hx⟩
  · exact ⟨oe, none, ⟨g1, z1, no, by rw [z2]; trivial⟩, z2, fun _ _ q => nomatch q⟩
  · obtain ⟨mA, hns, hr⟩ := (show ObjOk X.prog X.w H s.heap dd (.xd vs) from I.hok dd _ hx)
    obtain ⟨od, ho, hl⟩ := lookIn_ns hns
    refine ⟨oe, some od, ⟨g1, z1, no, by rw [z2]; exact ho⟩, z2, fun d2 vs2 q q2 => ?_⟩
    cases q
    rw [hx] at q2
    cases q2
    exact ⟨od, rfl, mA, hr, hl⟩
theorem call_isX : CallR X (.builtin "isinstance") (fun xs H Q => ∃ (a D : Addr) (d : Option Addr) (c : V) (cv : Value) (b : Bool), xs = [.ref a, c] ∧ H a = some (ExV (.ref D) d a) ∧ (d = none ∨ ∃ dd vs, d = some dd ∧ H dd = some (.xd vs)) ∧
    ExA X.K D ∧ (∀ u, RelV c u → u = cv) ∧ PySem.W.kitOne X.K (.ref D) cv = some b ∧ Q (.bl b) H) := by
  rintro pins s σ H xs us Q I r ⟨a, D, d, c, cv, b, rfl, e, hd, A, hc, k, q⟩
  obtain ⟨u1, u2, rfl, r1, r2⟩ := vals2 r
  cases r1
  cases hc _ r2
  obtain ⟨oe, od, J, _, _⟩ := exv_inst I e hd
  exact PySem.W.kia_one (PySem.W.kitx_exc A.cl A.ga A.gg A.sb A.ca A.sp A.tk A.mr) I.kIn J k (fun z => nomatch z) fun tk => ⟨.bl b, H, I.tok tk, rfl, q⟩
theorem pe_xfT {e : Expr} {te : TE} {pos : Pos} {n : Str} (he : PE X e te) (hb : attributeBase e n X.env (eval e X.env) = eval e X.env) :
    PE X (.Attribute e n pos) (fun σ H Q => te σ H fun x H1 => ∃ (a D dd : Addr) (fs : List (Str × V)) (v : V), x = .ref a ∧ H1 a = some (ExV (.ref D) (some dd) a) ∧ H1 dd = some (.xd fs) ∧ ExA X.K D ∧ PySem.W.findIn X.K (.ref D) n = some none ∧ fs.lookup n = some v ∧ Q v H1) := by
  refine ⟨fun pins s σ H Q I h => attr_of hb (thn (he.run pins s σ H _ I h) fun u s1 ⟨x, H1, I1, rx, a, D, dd, fs, v, ex, ea, ed, A, hno, l, q⟩ => ?_)⟩
  subst ex
  cases (show u = Value.ref a from rx)
  obtain ⟨oe, od, J, zd, k⟩ := exv_inst I1 ea (.inr ⟨dd, fs, rfl, ed⟩)
  obtain ⟨o, rfl, mA, hr, hl⟩ := k dd fs rfl ed
  obtain ⟨u, hu, ru⟩ := L2.RelO.some_of (v := v) (o := mA n) (by rw [← l]; exact hr n)
  exact HandSPX.exc_get I1.kIn J A.ga A.gg A.sb (PySem.W.findObj_own A.hd hno rfl (by rw [hl, hu])) (handed_of ru) ⟨v, H1, I1.tok _, ru, q⟩
end
theorem lookF {K : PySem.W.Frag} {H : Hp} {f : Str} : ∀ {fs : List (Str × D)} {vs : List (Str × V)} {d : D}, RelF K H fs vs → fs.lookup f = some d → ∃ v, vs.lookup f = some v ∧ RelD K H d v
  | [], _, _, _, e => by cases e
  | (g, d0) :: fs, _, d, ⟨v, r, e1, e2, e3⟩, e => by
    subst e1
    rw [List.lookup_cons] at e ⊢
    cases q : (f == g) with
    | true => rw [q] at e; cases e; exact ⟨v, rfl, e2⟩
    | false => rw [q] at e; exact lookF e3 e
section
variable {X : Cx} {W : WX} {k : Nat} {G : Sig}
theorem mem_ks {ks : List Str} {c : Str} (h : ks.all (fun k => (G.ck X.N).exs.contains k) = true) (m : c ∈ ks) : c ∈ G.exs := by
  have := List.all_eq_true.mp h c m
  simpa [Sig.ck] using this
theorem s_isx (c : Ctx X W k G) {a : E} {t : Str} {ks : List Str} {n tn : Str} {y : Expr} {p p2 pos : Pos}
    (g : ((((decide (n = "isinstance") = true ∧ bltOk (G.ck X.N) X.env.scope n = true) ∧ okHead y = true ∧ chkE (G.ck X.N) X.env.scope a y = true) ∧ decide (tn = t) = true) ∧ (if t = "ValueError" then bltOk (G.ck X.N) X.env.scope tn else glB X.env.scope tn && noDbg tn && (G.ck X.N).exs.contains t) = true) ∧ ks.all (fun k => (G.ck X.N).exs.contains k) = true)
    (ih : chkE (G.ck X.N) X.env.scope a y = true → PE X y (liftE X.K W (rdE G.sps a))) :
    PE X (.Call (.Name n p) [y, .Name tn p2] [] pos) (liftE X.K W fun ρ h xq Q => rdE G.sps a ρ h xq fun x h1 => match x with
      | .ref p => match h1 p with
        | some (.exc c _) => c ∈ ks ∧ Q (.bl (subE c t)) h1
        | _ => False
      | _ => False) := by
  obtain ⟨⟨⟨⟨⟨g1, g2⟩, g3, g4⟩, g5⟩, g6⟩, g7⟩ := g
  cases of_decide_eq_true g1
  cases of_decide_eq_true g5
  obtain ⟨hg, hm, hd, hn⟩ := bltOk_ok c g2
  have ty : ∃ (v : V) (cv : Value), PE X (.Name t p2) (tC v) ∧ (∀ u, RelV v u → u = cv) ∧ ∀ x ∈ G.exs, PySem.W.kitOne X.K (.ref (He.ga X.K x)) cv = some (subE x t) := by
    by_cases ht : t = "ValueError"
    · subst ht
      rw [if_pos rfl] at g6
      obtain ⟨hg2, hm2, hd2, hn2⟩ := bltOk_ok c g6
      refine ⟨.ty "ValueError", .type "ValueError", pe_bltn hg2 hm2 (by decide +kernel) rfl hn2 hd2, fun u r => r, fun x hx => ?_⟩
      have e := (c.exs x hx).a.ve
      have e2 : subE x "ValueError" = true := by simp [subE]
      rw [e2]
      exact e
    · rw [if_neg ht] at g6
      simp only [Bool.and_eq_true_iff] at g6
      have hx : t ∈ G.exs := by simpa [Sig.ck] using g6.2
      exact ⟨.ref (He.ga X.K t), .ref (He.ga X.K t), pe_glob (gl_ok g6.1.1) (c.exs t hx).g rfl (noDbg_ok g6.1.2).1, fun u r => r, fun x hx2 => (c.exp x hx2 t hx).i⟩
  obtain ⟨v, cv, pt, hcv, kit⟩ := ty
  refine (pe_callB call_isX hg hm (by decide +kernel) (pa_cons (ih g4) (pa_cons pt pa_nil) (star_ok g3 _ _)) hn hd (star_ok g3 _ _) rfl).lift fun σ H Q ⟨ρ, h, xq, Qd, rs, rh, q, out, ox⟩ => ?_
  refine liftE.bind rs rh q ox fun x h1 v1 H1 q1 r1 rh1 f1 k1 rs1 ox1 => ?_
  cases x with
  | ref a =>
    dsimp only at q1
    cases ha : h1 a with
    | none => rw [ha] at q1; exact q1.elim
    | some o =>
      rw [ha] at q1
      cases o with
      | exc cl fs =>
        obtain ⟨q1, q2⟩ := q1
        cases (show v1 = V.ref a from r1)
        obtain ⟨d, hd1, hd2⟩ := rh1 a _ ha
        have hx := mem_ks (X := X) (G := G) g7 q1
        exact ⟨a, He.ga X.K cl, d, v, cv, subE cl t, rfl, hd1, hd2.elim (fun z => .inl z.1) fun ⟨dd, vs, z1, z2, _⟩ => .inr ⟨dd, vs, z1, z2⟩, (c.exs cl hx).a, hcv, kit cl hx, (out.step f1).bl rh1 q2⟩
      | _ => exact q1.elim
  | _ => exact q1.elim
theorem s_xfld (c : Ctx X W k G) {a : E} {f : Str} {ks : List Str} {n : Str} {y : Expr} {pos : Pos}
    (g : (((decide (n = f) = true ∧ (!(call0 y)) = true) ∧ okHead y = true ∧ chkE (G.ck X.N) X.env.scope a y = true) ∧ xFlds.contains f = true) ∧ ks.all (fun k => (G.ck X.N).exs.contains k) = true)
    (ih : chkE (G.ck X.N) X.env.scope a y = true → PE X y (liftE X.K W (rdE G.sps a))) :
    PE X (.Attribute y n pos) (liftE X.K W fun ρ h xq Q => rdE G.sps a ρ h xq fun x h1 => match x with
      | .ref p => match h1 p with
        | some (.exc c fs) => c ∈ ks ∧ match fs.lookup f with
          | some d => Q d h1
          | none => False
        | _ => False
      | _ => False) := by
  obtain ⟨⟨⟨⟨g1, g2⟩, g3, g4⟩, g5⟩, g7⟩ := g
  cases of_decide_eq_true g1
  refine (pe_xfT (ih g4) (base_ok (bang g2) _ _ _)).lift fun σ H Q ⟨ρ, h, xq, Qd, rs, rh, q, out, ox⟩ => ?_
  refine liftE.bind rs rh q ox fun x h1 v1 H1 q1 r1 rh1 f1 k1 rs1 ox1 => ?_
  cases x with
  | ref a =>
    dsimp only at q1
    cases ha : h1 a with
    | none => rw [ha] at q1; exact q1.elim
    | some o =>
      rw [ha] at q1
      cases o with
      | exc cl fs =>
        obtain ⟨q1, q2⟩ := q1
        cases (show v1 = V.ref a from r1)
        obtain ⟨d, hd1, hd2⟩ := rh1 a _ ha
        have hx := mem_ks (X := X) (G := G) g7 q1
        cases hl : fs.lookup f with
        | none => rw [hl] at q2; exact q2.elim
        | some dd =>
          rw [hl] at q2
          rcases hd2 with ⟨_, rfl⟩ | ⟨da, vs, rfl, z2, z3⟩
          · cases hl
          · obtain ⟨v, hv, rv⟩ := lookF z3 hl
            exact ⟨a, He.ga X.K cl, da, vs, v, rfl, hd1, z2, (c.exs cl hx).a, (c.exs cl hx).a.nf f (by simpa using g5), hv, (out.step f1).at rh1 q2 rv⟩
      | _ => exact q1.elim
  | _ => exact q1.elim
end
end Lit
/-! Instances of own classes: fields, methods, makes. -/
namespace Lit
open PySem PySem.Spec PyProof.Rows L2
section
variable {K : PySem.W.Frag} {H : Hp}
theorem lookFn {f : Str} : ∀ {fs : List (Str × D)} {vs : List (Str × V)}, RelF K H fs vs → fs.lookup f = none → vs.lookup f = none
  | [], _, r, _ => by cases (show _ = [] from r); rfl
  | (g, d0) :: fs, _, ⟨v, r, e1, e2, e3⟩, e => by
    subst e1
    rw [List.lookup_cons] at e ⊢
    cases q : (f == g) with
    | true => rw [q] at e; cases e
    | false => rw [q] at e; exact lookFn e3 e
theorem relF_len : ∀ {fs : List (Str × D)} {vs : List (Str × V)}, RelF K H fs vs → vs.length = fs.length
  | [], _, r => by cases (show _ = [] from r); rfl
  | (g, d0) :: fs, _, ⟨v, r, e1, e2, e3⟩ => by
    subst e1
    simp [relF_len e3]
theorem relF_put {f : Str} {y : D} {u : V} (ry : RelD K H y u) : ∀ {fs : List (Str × D)} {vs : List (Str × V)}, RelF K H fs vs → RelF K H (putFs f y fs) (putF f u vs)
  | [], _, r => by cases (show _ = [] from r); exact ⟨u, [], rfl, ry, rfl⟩
  | (g, d0) :: fs, _, ⟨v, r, e1, e2, e3⟩ => by
    subst e1
    rw [show putF f u ((g, v) :: r) = (if g = f then (g, u) :: r else (g, v) :: putF f u r) from rfl, show putFs f y ((g, d0) :: fs) = (if g = f then (f, y) :: fs else (g, d0) :: putFs f y fs) from rfl]
    by_cases hg : g = f
    · rw [if_pos hg, if_pos hg]
      subst hg
      exact ⟨u, r, rfl, ry, e3⟩
    · rw [if_neg hg, if_neg hg]
      exact ⟨v, putF f u r, rfl, e2, relF_put ry e3⟩
end
section
variable {X : Cx} {W : WX} {k : Nat} {G : Sig}
theorem mem_cs {cs : List Str} {c : Str} (h : cs.all (fun k => (G.ck X.N).cls.contains k) = true) (m : c ∈ cs) : c ∈ G.cls := by
  have := List.all_eq_true.mp h c m
  simpa [Sig.ck] using this
theorem s_fld (c : Ctx X W k G) {o : Expr} {f : Str} {cs : List Str} {pos : Pos} {ro : RE} (ho : PE X o (liftE X.K W ro)) (hb : call0 o = false) (hf : (G.ck X.N).flds.contains f = true) (hc : cs.all (fun k => (G.ck X.N).cls.contains k) = true) :
    PE X (.Attribute o f pos) (liftE X.K W fun ρ h xq Q => ro ρ h xq fun x h1 => match x with
      | .ref a => match h1 a with
        | some (.ins c fs) => c ∈ cs ∧ match fs.lookup f with
          | some d => Q d h1
          | none => False
        | _ => False
      | _ => False) := by
  refine (pe_fld ho (base_ok hb _ _ _)).lift fun σ H Q ⟨ρ, h, xq, Qd, rs, rh, q, out, ox⟩ => ?_
  refine liftE.bind rs rh q ox fun x h1 v1 H1 q1 r1 rh1 f1 k1 rs1 ox1 => ?_
  cases x with
  | ref a =>
    dsimp only at q1
    cases ha : h1 a with
    | none => rw [ha] at q1; exact q1.elim
    | some ob =>
      rw [ha] at q1
      cases ob with
      | ins cl fs =>
        obtain ⟨q1, q2⟩ := q1
        cases (show v1 = V.ref a from r1)
        obtain ⟨dx, vs, hd1, hd2⟩ := rh1 a _ ha
        have hx := c.cls cl (mem_cs (X := X) (G := G) hc q1)
        cases hl : fs.lookup f with
        | none => rw [hl] at q2; exact q2.elim
        | some dd =>
          rw [hl] at q2
          obtain ⟨v, hv, rv⟩ := lookF hd2 hl
          exact ⟨a, He.ga X.K cl, dx, vs, v, rfl, hd1, hx.c, hx.n f (by simpa [Sig.ck] using hf), hv, (out.step f1).at rh1 q2 rv⟩
      | _ => exact q1.elim
  | _ => exact q1.elim

/-- o.m(..), by what is called -/
theorem meth_run {o : Expr} {m : Str} {ap cp : Pos} {args : List Expr} {pins : List (Addr × Obj)} {s : Shared} {σ : L2.St} {H : Hp} {Q : Value → Shared → Prop} {te : TE} (he : PE X o te) (hb : call0 o = false) (hl : (ap.endLine == cp.line) = true) (I : Inv X pins σ H s)
    (hfew : ((backTo cp (starEach args X.env)).all (fun x => !x.1) && (backToKw cp (keywordEach [] X.env)).all (fun x => x.1.isSome) && decide (args.length + ([] : List Keyword).length + (if ([] : List Keyword).isEmpty then 0 else 1) < 30)) = true)
    (h : te σ H fun x H1 => ∃ a C dx fs g, x = .ref a ∧ H1 a = some (.ins C dx fs) ∧ Cls X.K C ∧ Meth X.K C m g ∧ fs.lookup m = none ∧
      ∀ s1, Inv X pins σ H1 s1 → wpAny (model X.prog X.w) X.A (callWith cp (.ref g) [.ref a] (backTo cp (starEach args X.env)) (backToKw cp (keywordEach [] X.env))) Q X.xe s1) :
    wpAny (model X.prog X.w) X.A (eval (.Call (.Attribute o m ap) args [] cp) X.env) Q X.xe s := by
  rw [arm_eval_Call, base_ok hb]
  refine wpAny_bind (wpAny_mono (he.run pins s σ H _ I h) (fun u s1 ⟨x, H1, I1, rx, a, C, dx, fs, g, ex, ea, c, kk, l, q⟩ => ?_) fun _ _ e => e)
  subst ex
  obtain rfl : u = Value.ref a := rx
  refine wpAny_bind (wpAny_standAt ?_)
  have hform : methodCallForm (args.length + ([] : List Keyword).length) (backTo cp (starEach args X.env)) (backToKw cp (keywordEach [] X.env)) = true := hfew
  have hpos : methodCallPos true o X.env ap cp = pure cp := by unfold methodCallPos; simp [hl]
  unfold methodCall
  rw [hform]
  refine wpAny_bind (wpAny_holding (getmeth_ok I1 ea c kk l ?_))
  exact wpAny_bind (wpAny_of_eq hpos (q s1 I1))
theorem few0 (pos : Pos) (env : Env) :
    ((backTo pos (starEach [] env)).all (fun x => !x.1) && (backToKw pos (keywordEach [] env)).all (fun x => x.1.isSome) && decide (([] : List Expr).length + ([] : List Keyword).length + (if ([] : List Keyword).isEmpty then 0 else 1) < 30)) = true := rfl
theorem s_meth (c : Ctx X W k G) {i : Nat} {cn m : Str} {o : Expr} {args : List Expr} {es : E} {ap cp : Pos} {ro : RE} {ra : RA} (hi : (G.fns.map (·.1))[i]? = some (cn, some m)) (hcn : (G.ck X.N).cls.contains cn = true) (ho : PE X o (liftE X.K W ro)) (hb : call0 o = false) (hl : (ap.endLine == cp.line) = true)
    (hA : chkA (G.ck X.N) X.env.scope es args = true) (hn : args.length < 20) (ha : PA X args (liftA X.K W ra)) (hm : m ≠ "__init__") (h0 : args = [] → ∀ ρ h xq (P : List D → PH → Prop), ra ρ h xq P → P [] h) :
    PE X (.Call (.Attribute o m ap) args [] cp) (liftE X.K W fun ρ h xq Q => ro ρ h xq fun x h1 => match x with
      | .ref a => match h1 a with
        | some (.ins c fs) => c = cn ∧ fs.lookup m = none ∧ ra ρ h1 xq fun ds h2 => spAt G.sps i (.ref a :: ds) h2 xq Q
        | _ => False
      | _ => False) := by
  rw [List.getElem?_map] at hi
  cases ei : G.fns[i]? with
  | none => rw [ei] at hi; cases hi
  | some q0 =>
    obtain ⟨f', sp⟩ := q0
    rw [ei] at hi
    cases hi
    obtain ⟨fa, fd, ps, j, hj, hat, F, hbd⟩ := c.fns i _ sp ei
    have hjk : j ≤ k := Nat.le_trans (Nat.le_add_right _ _) hj
    have es' : G.sps[i]? = some sp := by unfold Sig.sps; rw [List.getElem?_map, ei]; rfl
    have M : Meth X.K (He.ga X.K cn) m fa := by
      have z : (if m = "__init__" then Mk X.K (He.ga X.K cn) fa ∧ X.mg cn = some (.ref (He.ga X.K cn)) else Meth X.K (He.ga X.K cn) m fa) := hat
      rw [if_neg hm] at z
      exact z
    have C := c.cls cn (by simpa [Sig.ck] using hcn)
    constructor
    intro pins s σ H Q I ⟨ρ, h, xq, Qd, rs, rh, q, out, ox⟩
    refine meth_run (σ := σ) (H := H) ho hb hl I (by cases args with | nil => exact few0 _ _ | cons x xs => exact few_ok hA hn _ _) ?_
    refine liftE.bind rs rh q ox fun x h1 v1 H1 q1 r1 rh1 f1 k1 rs1 ox1 => ?_
    cases x with
    | ref a =>
      dsimp only at q1
      cases ea : h1 a with
      | none => rw [ea] at q1; exact q1.elim
      | some ob =>
        rw [ea] at q1
        cases ob with
        | ins cl fs =>
          obtain ⟨rfl, q2, q3⟩ := q1
          cases (show v1 = V.ref a from r1)
          obtain ⟨dx, vs, hd1, hd2⟩ := rh1 a _ ea
          refine ⟨a, He.ga X.K cl, dx, vs, fa, rfl, hd1, C.c, M, lookFn hd2 q2, fun s1 I1 => ?_⟩
          have fin : ∀ (us : List Value) (vs : List V) (ds : List D) (h2 : PH) (H2 : Hp) (s2 : Shared), Inv X pins σ H2 s2 → Vals vs us → RelDs X.K H2 ds vs → RelH X.K H2 h2 → Frm H1 h1 H2 h2 → OutX X.K W σ H2 h2 xq → spAt G.sps i (.ref a :: ds) h2 xq Qd →
              wpAny (model X.prog X.w) X.A (call (.ref fa) (.ref a :: us)) (EP X pins σ Q) X.xe s2 := fun us vs ds h2 H2 s2 I2 rv rd rh2 f2 ox2 p => by
            simp only [spAt, es'] at p
            obtain ⟨X0, Q0, p3, kx, kq⟩ := p
            refine run_def (us := .ref a :: us) (vs := .ref a :: vs) (Q := Q) c hjk F hbd I2 (.cons rfl rv) ?_
            exact ⟨.ref a :: ds, h2, X0, Q0, .cons rfl rd, rh2, p3, fun r' h' v H' q' a' b' cc => out r' h' v H' (kq _ _ q') a' b' ((f1.trans f2).trans cc), fun x h' cls dd H' q' a' b' cc => ox2 x h' cls dd H' (kx _ _ q') a' b' cc⟩
          cases args with
          | nil =>
            have p := h0 rfl _ _ _ _ q3
            exact PySem.W.callWith_K0 (first := [.ref a]) I1.kIn M.kp (fin [] [] [] h1 _ s1 I1 .nil .nil rh1 Frm.refl ox1 p)
          | cons e es2 =>
            obtain ⟨a1, r1', rfl⟩ := chkA_ncons hA
            obtain ⟨oe, _, hr⟩ := chkA_head hA
            refine PySem.W.callWith_K (first := [.ref a]) (h₀ := X.base) I1.ok.mod.kin M.kp (thn (ha.run cp pins s1 σ H1 (fun vs H2 => ∃ ds h2, RelDs X.K H2 ds vs ∧ RelH X.K H2 h2 ∧ Frm H1 h1 H2 h2 ∧ OutX X.K W σ H2 h2 xq ∧ spAt G.sps i (.ref a :: ds) h2 xq Qd) I1
              (liftA.bind rs1 rh1 q3 ox1 fun ds h2 vs H2 p r2 rh2 f2 _ _ ox2 => ⟨ds, h2, r2, rh2, f2, ox2, p⟩)) fun us s2 ⟨vs, H2, I2, r, ds, h2, r2, rh2, f2, ox2, p⟩ => ⟨I2.kIn, fin us vs ds h2 H2 s2 I2 r r2 rh2 f2 ox2 p⟩) (star_ok oe _ _) (chkA_star hr _ _)
        | _ => exact q1.elim
    | _ => exact q1.elim

/-- a make, by what its __init__ keeps -/
theorem run_mk {pins : List (Addr × Obj)} {σ : L2.St} {H : Hp} {s : Shared} {Q : VK} {us : List Value} {vs : List V} {j : Nat} {fa C : Addr} {fd : FuncData} {ps : List Str} {sp : Sp} (c : Ctx X W k G) (M : Mk X.K C fa) (hj : j + 1 ≤ k)
    (F : FnG X.prog X.w X.K X.mg X.base j fa fd ps sp) (hb : Binds X.K fd ps []) (I : Inv X pins σ H s) (r : Vals vs us)
    (h : ∀ x dx, H x = none → H dx = none → dx ≠ x → sp (.ref x :: vs) (upd (upd H dx (.own x)) x (.ins C dx [])) (fun v H2 => v = .non ∧ Q (.ref x) H2) (WE W σ)) :
    wpAny (model X.prog X.w) X.A (call (.ref C) us) (EP X pins σ Q) X.xe s := by
  have hq := h (s.heap.objs.size + 1) s.heap.objs.size (I.hok.fresh (Nat.le_succ _)) (I.hok.fresh (Nat.le_refl _)) (Nat.ne_of_lt (Nat.lt_succ_self _))
  have I2 := Inv.made (C := C) I
  have r2 : Vals (V.ref (s.heap.objs.size + 1) :: vs) (Value.ref (s.heap.objs.size + 1) :: us) := .cons rfl r
  have hl : (Value.ref (s.heap.objs.size + 1) :: us).length = ps.length := by
    have e := r2.length
    rw [F.len _ _ _ _ hq] at e
    exact e.symm
  have bd := hb _ (Value.ref (s.heap.objs.size + 1) :: us) I2.kIn (by rw [List.append_nil]; exact hl)
  rw [List.append_nil] at bd
  have gd : (X.A.under (.builtin "type.__call__" ⟨.ref C :: us, []⟩)).guards = some [] := by
    have := c.gd
    simp [Around.under, Code.guards, pushGuards, this, Code.isGuard, guardIds]
  have run := F.go (X.A.under (.builtin "type.__call__" ⟨.ref C :: us, []⟩)) X.stack _ _ ⟨Value.ref (s.heap.objs.size + 1) :: us, []⟩ _ _ (fun v H2 => v = .non ∧ Q (.ref (s.heap.objs.size + 1)) H2) (WE W σ) gd ((c.room.mono hj).make C us []) (I2.env0.make C us []) bd r2 hq
  refine wpAny_call (make_map (f := fa) I.kIn M.makes M.init (beq_iff_eq.mp M.fn) (codeAny_mono run (fun r s' hq' => ?_)))
  cases r with
  | error e => exact passAt c.tk σ pins _ _ e s' I2 hq'
  | ok fl =>
    cases fl with
    | ret u =>
      obtain ⟨v, H', I3, rv, ev, q3⟩ := I2.after hq'
      subst ev
      exact ⟨rv, ⟨V.ref (s.heap.objs.size + 1), H', I3, rfl, q3⟩⟩
    | next => exact False.elim hq'
    | brk => exact False.elim hq'
    | cont => exact False.elim hq'
theorem s_make (c : Ctx X W k G) {i : Nat} {cn : Str} {p pos : Pos} {e : Expr} {es : List Expr} {ra : RA} (hi : (G.fns.map (·.1))[i]? = some (cn, some ("__init__" : Str))) (hcn : (G.ck X.N).cls.contains cn = true) (hg : Gl X cn)
    (hd : (cn == ("__debug__" : Str)) = false) (ha : PA X (e :: es) (liftA X.K W ra)) (he : starEach (e :: es) X.env = (false, eval e X.env) :: starEach es X.env) (hp : (backTo pos (starEach es X.env)).any (·.1) = false) :
    PE X (.Call (.Name cn p) (e :: es) [] pos) (liftE X.K W fun ρ h xq Q => ra ρ h xq fun ds h1 => ∀ (p : Addr) (h2 : PH), h1 p = none → h2 p = some (.ins cn []) → Ext h1 h2 → spAt G.sps i (.ref p :: ds) h2 xq fun v h3 => v = .non ∧ Q (.ref p) h3) := by
  rw [List.getElem?_map] at hi
  cases ei : G.fns[i]? with
  | none => rw [ei] at hi; cases hi
  | some q0 =>
    obtain ⟨f', sp⟩ := q0
    rw [ei] at hi
    cases hi
    obtain ⟨fa, fd, ps, j, hj, hat, F, hbd⟩ := c.fns i _ sp ei
    have hjk : j + 1 ≤ k := by
      have z : lvl (cn, some ("__init__" : Str)) = 1 := by unfold lvl; rw [if_pos rfl]
      rw [z] at hj
      exact hj
    have es' : G.sps[i]? = some sp := by unfold Sig.sps; rw [List.getElem?_map, ei]; rfl
    obtain ⟨M, hm⟩ : Mk X.K (He.ga X.K cn) fa ∧ X.mg cn = some (.ref (He.ga X.K cn)) := by
      have z : (if ("__init__" : Str) = ("__init__" : Str) then Mk X.K (He.ga X.K cn) fa ∧ X.mg cn = some (.ref (He.ga X.K cn)) else Meth X.K (He.ga X.K cn) ("__init__" : Str) fa) := hat
      rw [if_pos rfl] at z
      exact z
    constructor
    intro pins s σ H Q I ⟨ρ, h, xq, Qd, rs, rh, q, out, ox⟩
    refine wpAny_Call_Name_kw (ld_glob I hg hm ?_ hd)
    refine PySem.W.callWith_K (h₀ := X.base) I.ok.mod.kin M.kp (thn (ha.run pos pins s σ H (fun vs H1 => ∀ x dx, H1 x = none → H1 dx = none → dx ≠ x → liftSp X.K sp (.ref x :: vs) (upd (upd H1 dx (.own x)) x (.ins (He.ga X.K cn) dx [])) (fun v H2 => v = .non ∧ Q (.ref x) H2) (WE W σ)) I ?_)
      fun us s1 ⟨vs, H1, I1, r, q1⟩ => ⟨I1.kIn, run_mk c M hjk F hbd I1 r q1⟩) he hp
    refine liftA.bind rs rh q ox fun ds h1 vs H1 p1 r1 rh1 f1 _ _ ox1 => fun x dx nx nd ne => ?_
    have p2 := p1 x (updP h1 x (.ins cn [])) (rh1.free nx) updP_same (fun b u e => by
      rw [updP_ne (fun z => by rw [z, rh1.free nx] at e; cases e)]; exact e)
    simp only [spAt, es'] at p2
    obtain ⟨X0, Q0, p3, kx, kq⟩ := p2
    have rl : RelH X.K (upd H1 dx (.own x)) h1 := rh1.laid nd (rh1.free nd)
    have nx2 : upd H1 dx (.own x) x = none := by rw [upd_ne (fun z => ne z.symm)]; exact nx
    have rp : RelH X.K (upd (upd H1 dx (.own x)) x (.ins (He.ga X.K cn) dx [])) (updP h1 x (.ins cn [])) := rl.put (.free nx2) ⟨dx, [], upd_same, rfl⟩
    have fr : Frm H1 h1 (upd (upd H1 dx (.own x)) x (.ins (He.ga X.K cn) dx [])) (updP h1 x (.ins cn [])) := (Frm.laid nd).trans (Frm.put (.inr nx2))
    have kp : Keeps H1 (upd (upd H1 dx (.own x)) x (.ins (He.ga X.K cn) dx [])) := fr.keeps rh1
    refine ⟨.ref x :: ds, _, X0, Q0, .cons rfl (r1.keep kp), rp, p3, fun r' h' v H' q' a b cc => ?_, fun x' h' cls dd H' q' a b cc => ox1 x' h' cls dd H' (kx _ _ q') a b (fr.trans cc)⟩
    obtain ⟨rfl, q2⟩ := kq _ _ q'
    refine ⟨a, out _ h' _ H' q2 rfl b ((f1.trans fr).trans cc)⟩
end
end Lit
/-! enumerate over a tuple. -/
namespace PySem
open Sem (wp)
theorem lit_meets_enum {v : Value} {o : Obj} {Hb : Heap → Prop} (B : Begins v o Hb) :
    Meets (Builtin.«enumerate.__new__» ⟨[.type "enumerate", v], []⟩) (fun _ Rs s => Hb s.heap ∧
      Rs (.ok (.ret (.ref (s.heap.push o).objs.size))) { s with heap := (s.heap.push o).push { cls := .type "enumerate", data := .fields #[.none, .bool false, .ref s.heap.objs.size, rawInt 0, .none, .none] } }) :=
  .of_wp fun pr w A Rs s hh => by
    obtain ⟨hp, gs, dr, tk, os⟩ := s
    obtain ⟨hb, hh⟩ := hh
    have hsub := sub_enumerate
    have go : ∀ {A' : Around} {E : Value → Shared → Prop} {Q : Value → Shared → Prop}, Q (.ref hp.objs.size) ⟨hp.push o, gs, dr, tk, os⟩ → wpAny (model pr w) A' (pyIter v) Q E ⟨hp, gs, dr, tk, os⟩ :=
      fun z => B.iter pr w _ _ ⟨hp, gs, dr, tk, os⟩ _ hb z
    wp_walk using go
    refine wpAny_stack_any fun st => wpAny_pure ?_
    split
    · rename_i cc _ _ _ _ _
      cases (cc == Value.type "enumerate")
      · wp_walk using go
        exact ⟨_, rfl, hh⟩
      · wp_walk using go
        exact ⟨_, rfl, hh⟩
    · wp_walk using go
      exact ⟨_, rfl, hh⟩
theorem lit_enum_of {prog : Program} {w : World} {A : Around} {E : Value → Shared → Prop} {s : Shared} {v : Value} {o : Obj} {Hb : Heap → Prop} {Q : Value → Shared → Prop} (B : Begins v o Hb) (hb : Hb s.heap)
    (k : ∀ h', IsEnum h' (s.heap.objs.size + 1) s.heap.objs.size 0 .none → h'.get? s.heap.objs.size = some o → h'.objs.size = s.heap.objs.size + 2 → (∀ b u, s.heap.get? b = some u → h'.get? b = some u) → Q (.ref (s.heap.objs.size + 1)) { s with heap := h' }) :
    wpAny (model prog w) A (call (.type "enumerate") [v]) Q E s := by
  refine callType_new F.called_enumerate (by decide) (F.typeCall_enumerate_1 _) (F.newCall_enumerate_1 _) (fun ob => F.args_object_init_2 ob _) F.entry_enumerate_new (lit_meets_enum B) ⟨hb, ?_⟩
  have sz1 : (s.heap.push o).objs.size = s.heap.objs.size + 1 := Heap.size_push ..
  show _ ∧ _
  rw [sz1]
  have en : IsEnum ((s.heap.push o).push { cls := .type "enumerate", data := .fields #[.none, .bool false, .ref s.heap.objs.size, rawInt 0, .none, .none] }) (s.heap.objs.size + 1) s.heap.objs.size 0 .none := by
    have z := Heap.get?_push_size (s.heap.push o) (o := { cls := .type "enumerate", data := .fields #[.none, .bool false, .ref s.heap.objs.size, rawInt 0, .none, .none] }) rfl
    rwa [sz1] at z
  exact ⟨⟨_, en, rfl⟩, k _ en (Heap.get?_push_of_some _ (Heap.get?_push_size _ B.free)) (by rw [Heap.size_push, sz1]) fun b u z => Heap.get?_push_of_some _ (Heap.get?_push_of_some _ z)⟩
end PySem
namespace Lit
open PySem PySem.Spec PyProof.Rows L2
/-- the tuple at a, its items in new pairs -/
def IteT (K : PySem.W.Frag) (a : Addr) : It :=
  ⟨fun i H => ∃ (xs : List V) (x : V), SqT K H a xs ∧ xs[i]? = some x, fun i H v H' => ∃ T x, v = .ref T ∧ H T = none ∧ H' = upd H T (.tup [.int (i : Nat), x]) ∧ ∀ xs, SqT K H a xs → xs[i]? = some x, fun i H => ∃ xs : List V, SqT K H a xs ∧ xs.length = i⟩
theorem turn_enumT {P : Program} {w : World} {K : PySem.W.Frag} {elts : List Expr} {kk : Nat} {tpos : Pos} (a e it : Addr) :
    Turn P w K (.Tuple elts kk tpos) (IteT K a) [e, it] e (fun i h => (∃ old, IsEnum h e it ((i : Nat) : Int) old) ∧ h.IsTupleIter it a i ∧ e ≠ it ∧ e ≠ a ∧ it ≠ a) where
  mem := by simp
  obj := fun i h st b hb => by
    obtain ⟨⟨old, he⟩, ⟨o, ho, hc, hd⟩, _⟩ := st
    rcases (show b = e ∨ b = it by simpa using hb) with z | z
    · rw [z]; exact ⟨_, he, fun v q => nomatch q⟩
    · rw [z]; exact ⟨o, ho, fun v q => by rw [hd] at q; cases q⟩
  keep := fun i h h' st k => let ⟨⟨old, he⟩, hi, hne⟩ := st; ⟨⟨old, k e (by simp) _ he⟩, hi.at fun o q => k it (by simp) o q, hne⟩
  item := by
    intro X hP hw hK hc i pins s σ H E I hf st hg
    subst hP hw hK
    obtain ⟨⟨old, he⟩, hit, ne1, ne2, ne3⟩ := st
    obtain ⟨xs, x, hq, hx⟩ := hg
    obtain ⟨its, rv, p, hz⟩ := I.tuple hq
    obtain ⟨u, hu, ru⟩ := rv.get hx
    have hel : e < s.heap.objs.size := Heap.lt_size he
    have hil : it < s.heap.objs.size := by obtain ⟨_, q, _⟩ := hit; exact Heap.lt_size q
    have hlt : i < its.toArray.size := by
      rw [List.size_toArray]
      exact (List.getElem?_eq_some_iff.mp hu).1
    have D := Draws.tuple (prog := X.prog) (w := X.w) (A := X.A.in1) (show X.A.in1.handled = none from I.ok.hd hc) it a (Ne.symm ne3) its.toArray
    refine wpAny_pyNext_enum_itemD (i := i) D he ⟨hit, show s.heap.IsTuple a its.toArray from p⟩ hlt ne1 (by simp [ne1, ne2]) fun y h' tk hy ho hst hT hsz hk => ?_
    have ey : y = u := by
      have hy' : its.toArray[i]? = some y := hy
      have : its[i]? = some y := by simpa using hy'
      rw [hu] at this
      exact (Option.some.inj this).symm
    subst ey
    refine ⟨_, rfl, wpAny_letOwnedTupleGo_enum (s := { s with heap := h', toks := tk + 1 }) ho fun h'' he' sb => ?_⟩
    have hT2 : h''.get? s.heap.objs.size = some { cls := .type "tuple", data := .seq #[.int i tk, y] } := (sb.2 _ (Nat.ne_of_gt hel)).trans hT
    have new : ObjOk X.prog X.w (upd H s.heap.objs.size (.tup [.int (i : Nat), x])) h'' s.heap.objs.size (.tup [.int (i : Nat), x]) :=
      ⟨by show 2 ≤ sizeLine; decide, [.int i tk, y], .cons ⟨_, rfl⟩ (.cons ru .nil), ⟨_, hT2, rfl, _, rfl⟩⟩
    have I1 : Inv X pins σ (upd H s.heap.objs.size (.tup [.int (i : Nat), x])) { s with heap := h'', toks := tk + 1 } :=
      I.turnedNew (ch := [e, it]) (fun b ob hb q => (sb.2 b (fun z => hb (by simp [z]))).trans (hk b ob (fun z => hb (by simp [z])) (fun z => hb (by simp [z])) q)) hf (Nat.le_refl _) new
    refine ⟨.ref s.heap.objs.size, _, I1, rfl, ⟨_, x, rfl, I.hok.fresh (Nat.le_refl _), rfl, fun ys hy => by rw [I.tuple_inj hy hq]; exact hx⟩, ⟨⟨y, ?_⟩, hst.1.at fun o q => (sb.2 it (Ne.symm ne1)).trans q, ne1, ne2, ne3⟩, fun b hb => ?_⟩
    · have e1 : ((i + 1 : Nat) : Int) = (i : Int) + 1 := by omega
      rw [e1]
      exact he'
    · have hb' : b < s.heap.objs.size := by
        rcases (show b = e ∨ b = it by simpa using hb) with z | z
        · rw [z]; exact hel
        · rw [z]; exact hil
      rw [upd_ne (Nat.ne_of_lt hb')]
      exact (hf b hb).1
  done := by
    intro X hP hw hK hc i pins s σ H E I hf st hg
    subst hP hw hK
    obtain ⟨⟨old, he⟩, hit, ne1, ne2, ne3⟩ := st
    obtain ⟨xs, hq, hx⟩ := hg
    obtain ⟨its, rv, p, hz⟩ := I.tuple hq
    obtain ⟨f0, f1, f2, f3, f4, f5⟩ := hf it (by simp)
    have hl : i = its.toArray.size := by rw [List.size_toArray, ← hx]; exact rv.length
    subst hl
    have D := Draws.tuple (prog := X.prog) (w := X.w) (A := X.A.in1) (show X.A.in1.handled = none from I.ok.hd hc) it a (Ne.symm ne3) its.toArray
    exact wpAny_pyNext_enum_endD D he ⟨hit, show s.heap.IsTuple a its.toArray from p⟩ fun h' eb => ⟨rfl, I.turned (t' := s.toks) (fun b o hb q => eb b o hb q) f0 f1 f3 f4 f5⟩
  self := fun A i s Q E st h => let ⟨⟨_, he⟩, _⟩ := st; wpAny_pyIter_enum he h
/-- the text's signs in new pairs -/
def IteX (x : Str) : It :=
  ⟨fun i _ => ∃ c, x.cps[i]? = some c, fun i H v H' => ∃ T c, v = .ref T ∧ H T = none ∧ H' = upd H T (.tup [.int (i : Nat), .str ⟨#[c]⟩]) ∧ x.cps[i]? = some c, fun i _ => x.cps.size = i⟩
theorem turn_enumX {P : Program} {w : World} {K : PySem.W.Frag} {elts : List Expr} {kk : Nat} {tpos : Pos} (x : Str) (t : Tok) (e it : Addr) :
    Turn P w K (.Tuple elts kk tpos) (IteX x) [e, it] e (fun i h => (∃ old, IsEnum h e it ((i : Nat) : Int) old) ∧ h.IsStrIter it (strIterType x) x t i ∧ e ≠ it) where
  mem := by simp
  obj := fun i h st b hb => by
    obtain ⟨⟨old, he⟩, ⟨o, ho, hc, hd⟩, _⟩ := st
    rcases (show b = e ∨ b = it by simpa using hb) with z | z
    · rw [z]; exact ⟨_, he, fun v q => nomatch q⟩
    · rw [z]; exact ⟨o, ho, fun v q => by rw [hd] at q; cases q⟩
  keep := fun i h h' st k => let ⟨⟨old, he⟩, hi, hne⟩ := st; ⟨⟨old, k e (by simp) _ he⟩, (let ⟨o, ho, hc, hd⟩ := hi; ⟨o, k it (by simp) o ho, hc, hd⟩), hne⟩
  item := by
    intro X hP hw hK hc i pins s σ H E I hf st hg
    subst hP hw hK
    obtain ⟨⟨old, he⟩, hit, ne1⟩ := st
    obtain ⟨c, hx⟩ := hg
    have hel : e < s.heap.objs.size := Heap.lt_size he
    have hil : it < s.heap.objs.size := by obtain ⟨_, q, _⟩ := hit; exact Heap.lt_size q
    have hlt : i < x.cps.size := (Array.getElem?_eq_some_iff.mp hx).1
    have D := Draws.text (prog := X.prog) (w := X.w) (A := X.A.in1) (show X.A.in1.handled = none from I.ok.hd hc) it x t
    refine wpAny_pyNext_enum_itemD (i := i) D he hit hlt ne1 (by simp [ne1]) fun y h' tk hy ho hst hT hsz hk => ?_
    obtain ⟨c', u, hc', rfl⟩ := hy
    have ec : c' = c := by rw [hx] at hc'; exact (Option.some.inj hc').symm
    subst ec
    refine ⟨_, rfl, wpAny_letOwnedTupleGo_enum (s := { s with heap := h', toks := tk + 1 }) ho fun h'' he' sb => ?_⟩
    have hT2 : h''.get? s.heap.objs.size = some { cls := .type "tuple", data := .seq #[.int i tk, .str ⟨#[c']⟩ u] } := (sb.2 _ (Nat.ne_of_gt hel)).trans hT
    have new : ObjOk X.prog X.w (upd H s.heap.objs.size (.tup [.int (i : Nat), .str ⟨#[c']⟩])) h'' s.heap.objs.size (.tup [.int (i : Nat), .str ⟨#[c']⟩]) :=
      ⟨by show 2 ≤ sizeLine; decide, [.int i tk, .str ⟨#[c']⟩ u], .cons ⟨_, rfl⟩ (.cons ⟨_, rfl⟩ .nil), ⟨_, hT2, rfl, _, rfl⟩⟩
    have I1 : Inv X pins σ (upd H s.heap.objs.size (.tup [.int (i : Nat), .str ⟨#[c']⟩])) { s with heap := h'', toks := tk + 1 } :=
      I.turnedNew (ch := [e, it]) (fun b ob hb q => (sb.2 b (fun z => hb (by simp [z]))).trans (hk b ob (fun z => hb (by simp [z])) (fun z => hb (by simp [z])) q)) hf (Nat.le_refl _) new
    refine ⟨.ref s.heap.objs.size, _, I1, rfl, ⟨_, c', rfl, I.hok.fresh (Nat.le_refl _), rfl, hx⟩, ⟨⟨.str ⟨#[c']⟩ u, ?_⟩, (let ⟨o, ho2, hc2, hd2⟩ := hst; ⟨o, (sb.2 it (Ne.symm ne1)).trans ho2, hc2, hd2⟩), ne1⟩, fun b hb => ?_⟩
    · have e1 : ((i + 1 : Nat) : Int) = (i : Int) + 1 := by omega
      rw [e1]
      exact he'
    · have hb' : b < s.heap.objs.size := by
        rcases (show b = e ∨ b = it by simpa using hb) with z | z
        · rw [z]; exact hel
        · rw [z]; exact hil
      rw [upd_ne (Nat.ne_of_lt hb')]
      exact (hf b hb).1
  done := by
    intro X hP hw hK hc i pins s σ H E I hf st hg
    subst hP hw hK
    obtain ⟨⟨old, he⟩, hit, ne1⟩ := st
    obtain ⟨f0, f1, f2, f3, f4, f5⟩ := hf it (by simp)
    have hl : x.cps.size = i := hg
    subst hl
    have D := Draws.text (prog := X.prog) (w := X.w) (A := X.A.in1) (show X.A.in1.handled = none from I.ok.hd hc) it x t
    exact wpAny_pyNext_enum_endD D he hit fun h' eb => ⟨rfl, I.turned (t' := s.toks) (fun b o hb q => eb b o hb q) f0 f1 f3 f4 f5⟩
  self := fun A i s Q E st h => let ⟨⟨_, he⟩, _⟩ := st; wpAny_pyIter_enum he h
theorem walk_enumX {x : Str} : Walk (IteX x) x.cps.size (fun _ => True) (YPair (fun i => some (.int (i : Nat))) (fun i => (x.cps[i]?).map fun c => .str ⟨#[c]⟩)) := by
  refine ⟨fun i _ hi q => ⟨x.cps[i], by simp [hi]⟩, fun _ q => rfl, fun i H v H' _ q y => ?_⟩
  obtain ⟨T, c, h1, h2, h3, h4⟩ := y
  exact ⟨T, .int (i : Nat), .str ⟨#[c]⟩, h1, h2, h3, rfl, (show (x.cps[i]?).map _ = _ by rw [h4]; rfl)⟩
def iEnumA (K : PySem.W.Frag) (ta : TA) : TI := fun σ H R => ta σ H fun vs H1 => (∃ a, vs = [.ref a] ∧ ((∃ xs, SqL K H1 a xs ∧ R (Ite K a) H1) ∨ ∃ xs, SqT K H1 a xs ∧ R (IteT K a) H1)) ∨ ∃ x, vs = [.str x] ∧ R (IteX x) H1
theorem pi_enumA {X : Cx} {e : Expr} {ta : TA} {p pos tpos : Pos} {elts : List Expr} {kk : Nat} (hg : Gl X "enumerate") (hm : X.mg "enumerate" = none) (ha : PA X [e] ta) (hs : starEach [e] X.env = [(false, eval e X.env)]) :
    PI X (.Tuple elts kk tpos) (.Call (.Name "enumerate" p) [e] [] pos) (iEnumA X.K ta) := by
  constructor
  intro pins s σ H R I hw
  refine Call_ (ld_blt I hg hm boot_enumerate (PyProof.Rows.callWith_type1 (thn (ha.run pos pins s σ H _ I hw) fun us s1 ⟨vs, H1, I1, r1, q1⟩ => ?_) hs rfl))
  rcases q1 with q1 | ⟨x, rfl, q1⟩
  case inr =>
    obtain ⟨u, rfl, ru⟩ : ∃ u, us = [u] ∧ RelV (.str x) u := by
      cases r1 with
      | cons r rr =>
        cases rr
        exact ⟨_, rfl, r⟩
    obtain ⟨t, rfl⟩ := ru
    have fresh : ∀ b, b = s1.heap.objs.size + 1 ∨ b = s1.heap.objs.size → s1.heap.objs.size ≤ b := fun b z => by rcases z with z | z <;> rw [z] <;> omega
    refine lit_enum_of (begins_text x t) trivial fun h' he hit hsz hk => wpAny_pyIter_enum he ?_
    have I2 : Inv X pins σ H1 { s1 with heap := h' } := I1.kept (t' := s1.toks) hk
    refine ⟨s1.heap.objs.size + 1, [s1.heap.objs.size + 1, s1.heap.objs.size], _, _, H1, rfl, I2, turn_enumX x t (s1.heap.objs.size + 1) s1.heap.objs.size, ⟨⟨.none, he⟩, ⟨_, hit, rfl, rfl⟩, Nat.succ_ne_self _⟩, fun b hb => ?_, q1⟩
    have hle := fresh b (by simpa using hb)
    exact I1.fpOk hle (I1.hok.fresh hle)
  obtain ⟨a, rfl, q1⟩ := q1
  obtain ⟨u, rfl, ru⟩ : ∃ u, us = [u] ∧ RelV (.ref a) u := by
    cases r1 with
    | cons r rr =>
      cases rr
      exact ⟨_, rfl, r⟩
  cases ru
  have fresh : ∀ b, b = s1.heap.objs.size + 1 ∨ b = s1.heap.objs.size → s1.heap.objs.size ≤ b := fun b z => by rcases z with z | z <;> rw [z] <;> omega
  rcases q1 with ⟨xs, hq, q⟩ | ⟨xs, hq, q⟩
  · obtain ⟨its, rv, p', hz⟩ := I1.list hq
    refine call_enumerate_list p'.isList fun h' he hit hsz hk => wpAny_pyIter_enum he ?_
    have I2 : Inv X pins σ H1 { s1 with heap := h' } := I1.kept (t' := s1.toks) hk
    refine ⟨s1.heap.objs.size + 1, [s1.heap.objs.size + 1, s1.heap.objs.size], _, _, H1, rfl, I2, turn_enum a (s1.heap.objs.size + 1) s1.heap.objs.size, ⟨⟨.none, he⟩, hit, Nat.succ_ne_self _⟩, fun b hb => ?_, q⟩
    have hle := fresh b (by simpa using hb)
    exact I1.fpOk hle (I1.hok.fresh hle)
  · obtain ⟨its, rv, p', hz⟩ := I1.tuple hq
    have al : a < s1.heap.objs.size := by
      obtain ⟨o, e, _⟩ := p'
      exact Heap.lt_size e
    refine lit_enum_of (begins_tuple a its.toArray) (show s1.heap.IsTuple a its.toArray from p') fun h' he hit hsz hk => wpAny_pyIter_enum he ?_
    have I2 : Inv X pins σ H1 { s1 with heap := h' } := I1.kept (t' := s1.toks) hk
    refine ⟨s1.heap.objs.size + 1, [s1.heap.objs.size + 1, s1.heap.objs.size], _, _, H1, rfl, I2, turn_enumT a (s1.heap.objs.size + 1) s1.heap.objs.size, ⟨⟨.none, he⟩, ⟨_, hit, rfl, rfl⟩, Nat.succ_ne_self _, Nat.ne_of_gt (Nat.lt_succ_of_lt al), Nat.ne_of_gt al⟩, fun b hb => ?_, q⟩
    have hle := fresh b (by simpa using hb)
    exact I1.fpOk hle (I1.hok.fresh hle)
theorem walk_enumT {K : PySem.W.Frag} {a : Addr} {xs : List V} : Walk (IteT K a) xs.length (fun H => SqT K H a xs) (YPair (fun i => some (.int (i : Nat))) (fun i => xs[i]?)) := by
  refine ⟨fun i _ hi q => ⟨xs, xs[i], q, by simp [hi]⟩, fun _ q => ⟨xs, q, rfl⟩, fun i H v H' _ q y => ?_⟩
  obtain ⟨T, x, h1, h2, h3, h4⟩ := y
  exact ⟨T, .int (i : Nat), x, h1, h2, h3, rfl, h4 xs q⟩
end Lit
namespace Lit
open PySem PySem.Spec PyProof.Rows L2
section
variable {X : Cx} {W : WX} {k : Nat} {G : Sig}
/-! ### what is walked -/
theorem rdL_keep {K : PySem.W.Frag} {H : Hp} {h : PH} {d : D} {x : V} {ds : List D} (rh : RelH K H h) (rd : RelD K H d x) (e : rdL h d = some ds) : ∃ a, x = .ref a ∧ ∀ H' h', Keeps H H' → RelH K H' h' → rdL h' d = some ds → ∃ vs, SqL K H' a vs ∧ RelDs K H' ds vs := by
  obtain ⟨a, vs, ex, hs, rv⟩ := rdL_ok rh rd e
  refine ⟨a, ex, fun H' h' kp rh' e' => ?_⟩
  obtain ⟨a', vs', ex', hs', rv'⟩ := rdL_ok rh' (rd.keep kp) e'
  rw [ex] at ex'
  cases ex'
  exact ⟨vs', hs', rv'⟩
/-- what may be walked: a list, a tuple, a text -/
def iWalk (K : PySem.W.Frag) (ta : TE) : TI := fun σ H R => ta σ H fun x H1 => (∃ a, x = .ref a ∧ ((∃ xs, SqL K H1 a xs) ∧ R (Itl K a) H1 ∨ (∃ xs, SqT K H1 a xs) ∧ R (Itt K a) H1)) ∨ ∃ z, x = .str z ∧ R (Its z) H1
theorem pi_walk {tg e : Expr} {ta : TE} (he : PE X e ta) : PI X tg e (iWalk X.K ta) := by
  constructor
  intro pins s σ H R I h
  refine thn (he.run pins s σ H _ I h) fun v s1 ⟨x, H1, I1, r1, q1⟩ => ?_
  rcases q1 with ⟨a, rfl, q1⟩ | ⟨z, rfl, q⟩
  · cases r1
    rcases q1 with ⟨⟨xs, hq⟩, q⟩ | ⟨⟨xs, hq⟩, q⟩
    · obtain ⟨its, _, p, _⟩ := I1.list hq
      exact wpAny_pyIter_list p.isList (pi_one (tk := s1.toks) I1 _ (turn_list a _) ⟨_, Heap.get?_push_size _ rfl, rfl, rfl⟩ q)
    · obtain ⟨its, _, p, _⟩ := I1.tuple hq
      exact wpAny_pyIter_tuple (show s1.heap.IsTuple a its.toArray from p) (pi_one (tk := s1.toks) I1 _ (turn_tuple a _) ⟨_, Heap.get?_push_size _ rfl, rfl, rfl⟩ q)
  · obtain ⟨t, rfl⟩ := r1
    cases ha : z.cps.all (· < 128)
    · exact wpAny_pyIter_wide ha (pi_one (tk := s1.toks) I1 _ (turn_str _ z t "str_iterator" (.inr rfl)) ⟨_, Heap.get?_push_size _ rfl, rfl, rfl⟩ q)
    · exact wpAny_pyIter_ascii ha (pi_one (tk := s1.toks) I1 _ (turn_str _ z t "str_ascii_iterator" (.inl rfl)) ⟨_, Heap.get?_push_size _ rfl, rfl, rfl⟩ q)
theorem wd_list {K : PySem.W.Frag} {H1 : Hp} {h1 : PH} {x : D} {a : Addr} {ds : List D} (rh1 : RelH K H1 h1) (e1 : rdL h1 x = some ds) (kp : ∀ H' h', Keeps H1 H' → RelH K H' h' → rdL h' x = some ds → ∃ vs, SqL K H' a vs ∧ RelDs K H' ds vs) :
    WalkD K H1 h1 (Itl K a) ds fun h' => rdL h' x = some ds := by
  refine ⟨e1, fun H => ∃ h, Frm H1 h1 H h ∧ RelH K H h ∧ rdL h x = some ds, fun i H v H' => H' = H ∧ ∃ d, ds[i]? = some d ∧ RelD K H d v, ⟨fun i H hi ⟨h, f, r, e⟩ => ?_, fun H ⟨h, f, r, e⟩ => ?_, fun i H v H' hi ⟨h, f, r, e⟩ y => ?_⟩, fun H h f r st => ⟨h, f, r, st⟩, fun i H h v H' hi f r st ⟨e, d, hd, rd⟩ => ?_⟩
  · obtain ⟨ws, hw, rw'⟩ := kp H h (f.keeps rh1) r e
    exact ⟨ws, ws[i]'(by rw [rw'.len]; exact hi), hw, by simp⟩
  · obtain ⟨ws, hw, rw'⟩ := kp H h (f.keeps rh1) r e
    exact ⟨ws, hw, by rw [rw'.len]; exact Nat.le_refl _⟩
  · obtain ⟨ws, hw, rw'⟩ := kp H h (f.keeps rh1) r e
    obtain ⟨e', y'⟩ := y
    subst e'
    have z := y' ws hw
    obtain ⟨d, hd, rd⟩ := rw'.get i v z
    exact ⟨rfl, d, hd, rd⟩
  · subst e
    exact ⟨d, hd, rd, r, Frm.refl⟩
theorem wd_tup {K : PySem.W.Frag} {H1 : Hp} {h1 : PH} {b : Addr} {ds : List D} {vs : List V} (rh1 : RelH K H1 h1) (hv : SqT K H1 b vs) (rv : RelDs K H1 ds vs) : WalkD K H1 h1 (Itt K b) ds fun _ => True := by
  have len : vs.length = ds.length := rv.len
  have w := walk_tup (K := K) (a := b) (xs := vs)
  rw [len] at w
  refine ⟨trivial, _, _, w, fun H h f r _ => ?_, fun i H h v H' hi f r _ ⟨e, y⟩ => ?_⟩
  · exact (f.keeps rh1).sqT hv
  · subst e
    obtain ⟨d, hd, rd⟩ := rv.get i v y
    exact ⟨d, hd, rd.keep (f.keeps rh1), r, Frm.refl⟩
theorem wd_str {K : PySem.W.Frag} {H1 : Hp} {h1 : PH} {z : List Nat} : WalkD K H1 h1 (Its (mkS z)) (z.map fun c => D.str [c]) fun _ => True := by
  have w := walk_str (z := mkS z)
  have len : (mkS z).cps.size = (z.map fun c => D.str [c]).length := by simp
  rw [len] at w
  refine ⟨trivial, _, _, w, fun H h f r _ => trivial, fun i H h v H' hi f r _ ⟨e, c, hc, ev⟩ => ?_⟩
  subst e ev
  refine ⟨.str [c], ?_, rfl, r, Frm.refl⟩
  rw [List.getElem?_map]
  have hc' : z[i]? = some c := by simpa using hc
  rw [hc']
  rfl
theorem s_itL {tg a : Expr} {ra : RE} (ha : PE X a (liftE X.K W ra)) : PI X tg a (liftI X.K W fun ρ h xq R => ra ρ h xq fun x h1 => match x with
    | .tup ds => R ds (fun _ => True) h1
    | .str s => R (s.map fun c => .str [c]) (fun _ => True) h1
    | x => match rdL h1 x with
      | some ds => R ds (fun h' => rdL h' x = some ds) h1
      | none => False) := by
  refine (pi_walk ha).lift fun σ H R ⟨ρ, h, xq, Ri, rs, rh, q, out, ox⟩ => ?_
  refine liftE.bind rs rh q ox fun x h1 v1 H1 q1 r1 rh1 f1 k1 rs1 ox1 => ?_
  have go : ∀ x : D, RelD X.K H1 x v1 → (match rdL h1 x with
      | some ds => Ri ds (fun h' => rdL h' x = some ds) h1
      | none => False) → (∃ a, v1 = .ref a ∧ ((∃ xs, SqL X.K H1 a xs) ∧ R (Itl X.K a) H1 ∨ (∃ xs, SqT X.K H1 a xs) ∧ R (Itt X.K a) H1)) ∨ ∃ z, v1 = .str z ∧ R (Its z) H1 := fun x r1 q1 => by
    cases e1 : rdL h1 x with
    | none => rw [e1] at q1; exact q1.elim
    | some ds =>
      rw [e1] at q1
      obtain ⟨b, rfl, kp⟩ := rdL_keep rh1 r1 e1
      obtain ⟨vs, hs, rv⟩ := kp H1 h1 .refl rh1 e1
      exact .inl ⟨b, rfl, .inl ⟨⟨vs, hs⟩, out ds _ h1 _ H1 q1 (wd_list rh1 e1 kp) rh1 f1⟩⟩
  cases x with
  | tup ds =>
    obtain ⟨b, vs, rfl, hv, rv⟩ := relTup r1
    exact .inl ⟨b, rfl, .inr ⟨⟨vs, hv⟩, out ds _ h1 _ H1 q1 (wd_tup rh1 hv rv) rh1 f1⟩⟩
  | str z =>
    cases relStr r1
    exact .inr ⟨mkS z, rfl, out _ _ h1 _ H1 q1 wd_str rh1 f1⟩
  | _ => exact go _ r1 q1
theorem nats_get {n i : Nat} (h : i < n) : (natsD n)[i]? = some (.int (i : Int)) := by
  unfold natsD
  rw [List.getElem?_map, List.getElem?_range h]
  rfl
theorem nats_len (n : Nat) : (natsD n).length = n := by simp [natsD]
theorem s_itR1 (c : Ctx X W k G) {tg a : Expr} {p pos : Pos} {ra : RE} (h : bltOk (G.ck X.N) X.env.scope "range" = true) (ha : PE X a (liftE X.K W ra)) (oa : okHead a = true) : PI X tg (.Call (.Name "range" p) [a] [] pos) (liftI X.K W fun ρ h xq R => ra ρ h xq fun x h1 => match x with
    | .int j => -(2 ^ 62) ≤ j ∧ j < 2 ^ 62 ∧ R (natsD j.toNat) (fun _ => True) h1
    | _ => False) := by
  obtain ⟨hg, hm, hd, hn⟩ := bltOk_ok c h
  refine (pi_range1 hg hm (pa_cons ha pa_nil (star_ok oa _ _)) (star_ok oa _ _)).lift fun σ H R ⟨ρ, h, xq, Ri, rs, rh, q, out, ox⟩ => ?_
  refine liftE.bind rs rh q ox fun x h1 v1 H1 q1 r1 rh1 f1 k1 rs1 ox1 => ?_
  cases x with
  | int j =>
    cases relInt r1
    refine ⟨j, rfl, q1.1, q1.2.1, out _ _ h1 _ H1 q1.2.2 ?_ rh1 f1⟩
    have w := walk_range (lo := 0) (n := j.toNat)
    have len := nats_len j.toNat
    refine ⟨trivial, fun _ => True, L2.YFn fun i => .int (0 + (i : Nat)), by rw [len]; exact w, fun H h f r _ => trivial, fun i H h v H' hi f r _ ⟨e, ev⟩ => ?_⟩
    subst e ev
    exact ⟨_, nats_get (by rw [len] at hi; exact hi), by show V.int (0 + (i : Int)) = V.int (i : Int); rw [Int.zero_add], r, Frm.refl⟩
  | _ => exact q1.elim
theorem s_itR2 (c : Ctx X W k G) {tg a b : Expr} {p pos : Pos} {ra rb : RE} (h : bltOk (G.ck X.N) X.env.scope "range" = true) (ha : PE X a (liftE X.K W ra)) (hb : PE X b (liftE X.K W rb)) (oa : okHead a = true) (ob : okHead b = true) :
    PI X tg (.Call (.Name "range" p) [a, b] [] pos) (liftI X.K W fun ρ h xq R => ra ρ h xq fun x h1 => rb ρ h1 xq fun y h2 => match x, y with
    | .int i, .int j => (-(2 ^ 62) ≤ i ∧ i < 2 ^ 62 ∧ -(2 ^ 62) ≤ j ∧ j < 2 ^ 62) ∧ R ((List.range (j - i).toNat).map fun k : Nat => D.int (i + (k : Int))) (fun _ => True) h2
    | _, _ => False) := by
  obtain ⟨hg, hm, hd, hn⟩ := bltOk_ok c h
  have st : starEach [a, b] X.env = [(false, eval a X.env), (false, eval b X.env)] := by rw [star_ok oa, star_ok ob]; rfl
  have st2 : starEach [b] X.env = [(false, eval b X.env)] := by rw [star_ok ob]; rfl
  refine (pi_range2 hg hm (pa2 ha hb oa ob) st st2).lift fun σ H R ⟨ρ, h, xq, Ri, rs, rh, q, out, ox⟩ => ?_
  refine liftE.bind rs rh q ox fun x h1 v1 H1 q1 r1 rh1 f1 k1 rs1 ox1 => ?_
  refine liftE.bind rs1 rh1 q1 ox1 fun y h2 v2 H2 q2 r2 rh2 f2 k2 _ _ => ?_
  cases x with
  | int i =>
    cases y with
    | int j =>
      cases relInt r1
      cases relInt r2
      refine ⟨i, j, rfl, q2.1, out _ _ h2 _ H2 q2.2 ?_ rh2 (f1.trans f2)⟩
      have w := walk_range (lo := i) (n := (j - i).toNat)
      have len : ((List.range (j - i).toNat).map fun k : Nat => D.int (i + (k : Int))).length = (j - i).toNat := by simp
      refine ⟨trivial, fun _ => True, L2.YFn fun m => .int (i + (m : Nat)), by rw [len]; exact w, fun H h f r _ => trivial, fun m H h v H' hi f r _ ⟨e, ev⟩ => ?_⟩
      subst e ev
      rw [len] at hi
      refine ⟨.int (i + (m : Int)), ?_, rfl, r, Frm.refl⟩
      rw [List.getElem?_map, List.getElem?_range hi]
      rfl
    | _ => exact q2.elim
  | _ => exact q2.elim
theorem pairs_get : ∀ {xs ys : List D} {i : Nat} {x y : D}, xs[i]? = some x → ys[i]? = some y → (pairsD xs ys)[i]? = some (.tup [x, y])
  | [], _, _, _, _, e, _ => by simp at e
  | _ :: _, [], _, _, _, _, e => by simp at e
  | a :: xs, b :: ys, 0, _, _, e, f => by simp at e f; subst e f; rfl
  | a :: xs, b :: ys, i + 1, x, y, e, f => by
    show (pairsD xs ys)[i]? = _
    exact pairs_get (by simpa using e) (by simpa using f)
theorem pairs_len : ∀ {xs ys : List D}, (pairsD xs ys).length = min xs.length ys.length
  | [], _ => by simp [pairsD]
  | _ :: _, [] => by simp [pairsD]
  | a :: xs, b :: ys => by
    show (pairsD xs ys).length + 1 = _
    rw [pairs_len]
    simp only [List.length_cons]
    omega
/-- a pair newly laid -/
theorem pair_ok {K : PySem.W.Frag} {H : Hp} {h : PH} {T : Addr} {x y : V} {d e : D} (rh : RelH K H h) (n : H T = none) (rd : RelD K H d x) (re : RelD K H e y) :
    RelD K (upd H T (.tup [x, y])) (.tup [d, e]) (.ref T) ∧ RelH K (upd H T (.tup [x, y])) h ∧ Frm H h (upd H T (.tup [x, y])) h := by
  have kp : Keeps H (upd H T (.tup [x, y])) := Stay.upd.keeps (.free n)
  refine ⟨?_, rh.laid n (rh.free n), .laid n⟩
  simp only [RelD]
  exact ⟨T, [x, y], rfl, .inl upd_same, .cons (rd.keep kp) (.one (re.keep kp))⟩
theorem s_itEL (c : Ctx X W k G) {a : Expr} {elts : List Expr} {kk : Nat} {tpos p pos : Pos} {ra : RE} (h : bltOk (G.ck X.N) X.env.scope "enumerate" = true) (ha : PE X a (liftE X.K W ra)) (oa : okHead a = true) :
    PI X (.Tuple elts kk tpos) (.Call (.Name "enumerate" p) [a] [] pos) (liftI X.K W fun ρ h xq R => ra ρ h xq fun x h1 => match x with
      | .tup ds => R (pairsD (natsD ds.length) ds) (fun _ => True) h1
      | .str s => R (pairsD (natsD s.length) (s.map fun c => .str [c])) (fun _ => True) h1
      | x => match rdL h1 x with
        | some ds => R (pairsD (natsD ds.length) ds) (fun h' => rdL h' x = some ds) h1
        | none => False) := by
  obtain ⟨hg, hm, hd, hn⟩ := bltOk_ok c h
  refine (pi_enumA hg hm (pa_cons ha pa_nil (star_ok oa _ _)) (star_ok oa _ _)).lift fun σ H R ⟨ρ, h, xq, Ri, rs, rh, q, out, ox⟩ => ?_
  refine liftE.bind rs rh q ox fun x h1 v1 H1 q1 r1 rh1 f1 k1 rs1 ox1 => ?_
  have go : ∀ x : D, RelD X.K H1 x v1 → (match rdL h1 x with
      | some ds => Ri (pairsD (natsD ds.length) ds) (fun h' => rdL h' x = some ds) h1
      | none => False) → ∃ a, [v1] = [.ref a] ∧ ((∃ xs, SqL X.K H1 a xs ∧ R (Ite X.K a) H1) ∨ ∃ xs, SqT X.K H1 a xs ∧ R (IteT X.K a) H1) := fun x r1 q1 => by
    cases e1 : rdL h1 x with
    | none => rw [e1] at q1; exact q1.elim
    | some ds =>
      rw [e1] at q1
      obtain ⟨b, rfl, kp⟩ := rdL_keep rh1 r1 e1
      obtain ⟨vs, hs, rv⟩ := kp H1 h1 .refl rh1 e1
      refine ⟨b, rfl, .inl ⟨vs, hs, out _ _ h1 _ H1 q1 ?_ rh1 f1⟩⟩
      have len : (pairsD (natsD ds.length) ds).length = ds.length := by rw [pairs_len, nats_len]; exact Nat.min_self _
      refine ⟨e1, fun H => ∃ h, Frm H1 h1 H h ∧ RelH X.K H h ∧ rdL h x = some ds, fun i H v H' => ∃ T y d, v = .ref T ∧ H T = none ∧ H' = upd H T (.tup [.int (i : Nat), y]) ∧ ds[i]? = some d ∧ RelD X.K H d y, ⟨fun i H hi ⟨h, f, r, e⟩ => ?_, fun H ⟨h, f, r, e⟩ => ?_, fun i H v H' hi ⟨h, f, r, e⟩ y => ?_⟩,
        fun H h f r st => ⟨h, f, r, st⟩, fun i H h v H' hi f r st ⟨T, y, d, ev, hT, eH, hd, rd⟩ => ?_⟩
      · obtain ⟨ws, hw, rw'⟩ := kp H h (f.keeps rh1) r e
        rw [len] at hi
        exact (walk_enum (K := X.K) (a := b) (xs := ws)).goes i H (by rw [rw'.len]; exact hi) hw
      · obtain ⟨ws, hw, rw'⟩ := kp H h (f.keeps rh1) r e
        have z := (walk_enum (K := X.K) (a := b) (xs := ws)).stops H hw
        rw [rw'.len] at z
        rw [len]
        exact z
      · obtain ⟨ws, hw, rw'⟩ := kp H h (f.keeps rh1) r e
        rw [len] at hi
        obtain ⟨T, x1, y1, ev, hT, eH, ex, ey⟩ := (walk_enum (K := X.K) (a := b) (xs := ws)).yields i H v H' (by rw [rw'.len]; exact hi) hw y
        obtain ⟨d, hd, rd⟩ := rw'.get i y1 ey
        cases Option.some.inj ex
        exact ⟨T, y1, d, ev, hT, eH, hd, rd⟩
      · subst ev eH
        rw [len] at hi
        obtain ⟨p1, p2, p3⟩ := pair_ok (d := .int (i : Nat)) r hT rfl rd
        exact ⟨_, pairs_get (nats_get hi) hd, p1, p2, p3⟩

  cases x with
  | tup ds =>
    obtain ⟨b, vs, rfl, hv, rv⟩ := relTup r1
    have len : (pairsD (natsD ds.length) ds).length = vs.length := by rw [pairs_len, nats_len, rv.len]; exact Nat.min_self _
    refine .inl ⟨b, rfl, .inr ⟨vs, hv, out _ _ h1 _ H1 q1 ?_ rh1 f1⟩⟩
    refine ⟨trivial, fun H => SqT X.K H b vs, YPair (fun i => some (.int (i : Nat))) (fun i => vs[i]?), by rw [len]; exact walk_enumT (K := X.K) (a := b) (xs := vs), fun H h f r _ => (f.keeps rh1).sqT hv, fun i H h v H' hi f r _ ⟨T, x1, y1, ev, hT, eH, ex, ey⟩ => ?_⟩
    subst ev eH
    cases Option.some.inj ex
    obtain ⟨d, hd, rd⟩ := rv.get i y1 ey
    obtain ⟨p1, p2, p3⟩ := pair_ok (d := .int (i : Nat)) r hT rfl (rd.keep (f.keeps rh1))
    rw [len, rv.len] at hi
    exact ⟨_, pairs_get (nats_get hi) hd, p1, p2, p3⟩
  | str s =>
    cases relStr r1
    have len : (pairsD (natsD s.length) (s.map fun c => D.str [c])).length = s.length := by rw [pairs_len, nats_len, List.length_map]; exact Nat.min_self _
    have cz : (mkS s).cps.size = s.length := by simp
    refine .inr ⟨mkS s, rfl, out _ _ h1 _ H1 q1 ?_ rh1 f1⟩
    refine ⟨trivial, fun _ => True, YPair (fun i => some (.int (i : Nat))) (fun i => ((mkS s).cps[i]?).map fun c => .str ⟨#[c]⟩), by rw [len, ← cz]; exact walk_enumX, fun _ _ _ _ _ => trivial, fun i H h v H' hi f r _ ⟨T, x1, y1, ev, hT, eH, ex, ey⟩ => ?_⟩
    subst ev eH
    cases Option.some.inj ex
    rw [len] at hi
    have ey' : ((mkS s).cps[i]?).map (fun c => V.str ⟨#[c]⟩) = some y1 := ey
    have ec : (mkS s).cps[i]? = s[i]? := by simp
    rw [ec] at ey'
    cases hc : s[i]? with
    | none => rw [hc] at ey'; cases ey'
    | some c =>
      rw [hc] at ey'
      cases ey'
      obtain ⟨p1, p2, p3⟩ := pair_ok (d := .int (i : Nat)) (e := .str [c]) r hT rfl rfl
      exact ⟨_, pairs_get (nats_get hi) (by rw [List.getElem?_map, hc]; rfl), p1, p2, p3⟩
  | _ => exact .inl (go _ r1 q1)

/-! ### targets -/
mutual
def tgG (K : PySem.W.Frag) : Tg → TG
  | .nm i => gName i
  | .tup l => gTup K (tgLen l) (tgGs K l)
  | _ => fun _ _ _ _ => False
def tgGs (K : PySem.W.Frag) : Tg → TGs
  | .nil => gNil
  | .cons t l => gCons (tgG K t) (tgGs K l)
  | _ => fun _ _ _ _ => False
def tgLen : Tg → Nat
  | .cons _ l => tgLen l + 1
  | _ => 0
end
theorem asg_each : ∀ {c : Ck} {sc : Scope} {bo : Option Scope} {l : Tg} {es : List Expr}, chkTgs c sc bo l es = true → ∀ env : Env, (assignEach es env).length = tgLen l ∧ (assignEach es env).findIdx? (·.1) = none
  | _, _, _, .nil, [], _, _ => ⟨rfl, rfl⟩
  | c, sc, bo, .cons t l, e :: es, h, env => by
    simp only [chkTgs] at h
    obtain ⟨h1, h2⟩ := an h
    obtain ⟨h3, _⟩ := an h1
    obtain ⟨i1, i2⟩ := asg_each h2 env
    have st : assignEach (e :: es) env = (false, assign e env) :: assignEach es env := by cases e <;> first | rfl | cases h3
    rw [st]
    refine ⟨?_, ?_⟩
    · show (assignEach es env).length + 1 = tgLen l + 1
      rw [i1]
    · rw [List.findIdx?_cons]
      simp [i2]
  | _, _, _, .nil, _ :: _, h, _ => by simp only [chkTgs] at h; cases h
  | _, _, _, .cons _ _, [], h, _ => by simp only [chkTgs] at h; cases h
  | _, _, _, .nm _, _, h, _ => by simp only [chkTgs] at h; cases h
  | _, _, _, .tup _, _, h, _ => by simp only [chkTgs] at h; cases h
/-- stored names of the context -/
def Stores (X : Cx) (bo : Option Scope) : Prop := ∀ x, stB X.env.scope bo x = true → Loc X.env.scope x ∧ (X.fn x = true ∨ X.env.scope.names.lookup x = some .local)
mutual
theorem pg_tg {N : List Str} {bo : Option Scope} (c : Ctx X W k G) (hst : Stores X bo) : ∀ {t : Tg} {e : Expr}, chkTg (G.ck X.N) X.env.scope bo t e = true → PG X e (tgG X.K t)
  | .nm i, .Name x _, h => by
    simp only [chkTg] at h
    obtain ⟨h1, h2⟩ := an h
    obtain ⟨l, f⟩ := hst x h2
    exact pg_name c.nd (of_decide_eq_true h1) l f
  | .tup l, .Tuple es _ _, h => by
    simp only [chkTg] at h
    obtain ⟨a1, a2⟩ := asg_each h X.env
    exact pg_tup c.calm (pgs_tg (N := N) c hst h) a1 a2
  | .nil, _, h => by simp only [chkTg] at h; cases h
  | .cons _ _, _, h => by simp only [chkTg] at h; cases h
theorem pgs_tg {N : List Str} {bo : Option Scope} (c : Ctx X W k G) (hst : Stores X bo) : ∀ {t : Tg} {es : List Expr}, chkTgs (G.ck X.N) X.env.scope bo t es = true → PGs X es (tgGs X.K t)
  | .nil, [], _ => pgs_nil
  | .cons t l, e :: es, h => by
    simp only [chkTgs] at h
    obtain ⟨h1, h2⟩ := an h
    obtain ⟨h3, h4⟩ := an h1
    have st : assignEach (e :: es) X.env = (false, assign e X.env) :: assignEach es X.env := by cases e <;> first | rfl | cases h3
    exact pgs_cons (pg_tg (N := N) c hst h4) (pgs_tg (N := N) c hst h2) (by rw [st]; rfl)
  | .nil, _ :: _, h => by simp only [chkTgs] at h; cases h
  | .cons _ _, [], h => by simp only [chkTgs] at h; cases h
  | .nm _, _, h => by simp only [chkTgs] at h; cases h
  | .tup _, _, h => by simp only [chkTgs] at h; cases h
end
theorem wipe_get (σ : L2.St) : ∀ (vs : List Nat) (j : Nat), (wipe σ vs)[j]? = if j ∈ vs ∧ j < σ.length then some none else σ[j]?
  | [], j => by simp [wipe]
  | v :: vs, j => by
    unfold wipe
    by_cases e : v = j
    · subst e
      by_cases hl : v < σ.length
      · rw [List.getElem?_set_self (by rw [wipe_length]; exact hl), if_pos ⟨by simp, hl⟩]
      · rw [List.getElem?_eq_none (by rw [List.length_set, wipe_length]; omega), if_neg (by omega), List.getElem?_eq_none (by omega)]
    · rw [List.getElem?_set_ne e, wipe_get σ vs j]
      have m : (j ∈ v :: vs ∧ j < σ.length) ↔ (j ∈ vs ∧ j < σ.length) := by
        rw [List.mem_cons]
        constructor
        · rintro ⟨a | a, b⟩
          · exact absurd a.symm e
          · exact ⟨a, b⟩
        · rintro ⟨a, b⟩
          exact ⟨.inr a, b⟩
      by_cases q : j ∈ vs ∧ j < σ.length
      · rw [if_pos q, if_pos (m.mpr q)]
      · rw [if_neg q, if_neg fun z => q (m.mp z)]
theorem wipe_set {σ : L2.St} {vs : List Nat} {i : Nat} (hi : i ∈ vs) (v : Option V) : wipe (σ.set i v) vs = wipe σ vs := by
  apply List.ext_getElem?
  intro j
  rw [wipe_get, wipe_get, List.length_set]
  by_cases q : j ∈ vs ∧ j < σ.length
  · rw [if_pos q, if_pos q]
  · rw [if_neg q, if_neg q]
    by_cases e : i = j
    · subst e
      have hl : ¬ i < σ.length := fun z => q ⟨hi, z⟩
      rw [List.getElem?_eq_none (by rw [List.length_set]; omega), List.getElem?_eq_none (by omega)]
    · rw [List.getElem?_set_ne e]
theorem wipe_wipe (σ : L2.St) (vs : List Nat) : wipe (wipe σ vs) vs = wipe σ vs := by
  apply List.ext_getElem?
  intro j
  rw [wipe_get, wipe_length]
  by_cases q : j ∈ vs ∧ j < σ.length
  · rw [if_pos q, wipe_get, if_pos q]
  · rw [if_neg q]
theorem wipeR_rel {K : PySem.W.Frag} {H : Hp} {ρ : Rho} {σ : L2.St} (r : RelS K H ρ σ) : ∀ vs : List Nat, RelS K H (wipeR ρ vs) (wipe σ vs)
  | [] => r
  | v :: vs => by
    unfold wipeR wipe
    exact (wipeR_rel r vs).drop v
mutual
theorem asg_ok {K : PySem.W.Frag} {H : Hp} : ∀ {t : Tg} {d : D} {ρ ρ1 : Rho} {x : V} {σ : L2.St} {vs : List Nat} {Q : L2.St → Hp → Prop}, asg t d ρ = some ρ1 → RelD K H d x → RelS K H ρ σ → (∀ i ∈ tgSlots t, i ∈ vs) →
    (∀ σ1, RelS K H ρ1 σ1 → wipe σ1 vs = wipe σ vs → Q σ1 H) → tgG K t x σ H Q
  | .nm i, d, ρ, ρ1, x, σ, vs, Q, e, r, rs, hs, kk => by
    cases e
    show Q (σ.set i (some x)) H
    exact kk _ (rs.set r i) (wipe_set (hs i (by simp [tgSlots])) _)
  | .tup l, .tup ds, ρ, ρ1, x, σ, vs, Q, e, r, rs, hs, kk => by
    obtain ⟨a, ws, rfl, hv, rv⟩ := relTup r
    have e' : asgs l ds ρ = some ρ1 := by simpa only [asg] using e
    show gTup K (tgLen l) (tgGs K l) (.ref a) σ H Q
    exact ⟨a, ws, rfl, hv, by rw [rv.len]; exact asgs_len e', asgs_ok e' rv rs (by simpa only [tgSlots] using hs) kk⟩
  | .tup _, .non, _, _, _, _, _, _, e, _, _, _, _ => by simp only [asg] at e; cases e
  | .tup _, .bl _, _, _, _, _, _, _, e, _, _, _, _ => by simp only [asg] at e; cases e
  | .tup _, .int _, _, _, _, _, _, _, e, _, _, _, _ => by simp only [asg] at e; cases e
  | .tup _, .str _, _, _, _, _, _, _, e, _, _, _, _ => by simp only [asg] at e; cases e
  | .tup _, .ref _, _, _, _, _, _, _, e, _, _, _, _ => by simp only [asg] at e; cases e
  | .tup _, .rol _, _, _, _, _, _, _, e, _, _, _, _ => by simp only [asg] at e; cases e
  | .nil, _, _, _, _, _, _, _, e, _, _, _, _ => by simp only [asg] at e; cases e
  | .cons _ _, _, _, _, _, _, _, _, e, _, _, _, _ => by simp only [asg] at e; cases e
theorem asgs_len : ∀ {l : Tg} {ds : List D} {ρ ρ1 : Rho}, asgs l ds ρ = some ρ1 → ds.length = tgLen l
  | .nil, [], _, _, _ => rfl
  | .cons t l, d :: ds, ρ, ρ1, e => by
    simp only [asgs] at e
    cases e1 : asg t d ρ with
    | none => rw [e1] at e; cases e
    | some ρ' =>
      rw [e1] at e
      show ds.length + 1 = tgLen l + 1
      rw [asgs_len e]
  | .nil, _ :: _, _, _, e => by simp only [asgs] at e; cases e
  | .cons _ _, [], _, _, e => by simp only [asgs] at e; cases e
  | .nm _, _, _, _, e => by simp only [asgs] at e; cases e
  | .tup _, _, _, _, e => by simp only [asgs] at e; cases e
theorem asgs_ok {K : PySem.W.Frag} {H : Hp} : ∀ {l : Tg} {ds : List D} {ρ ρ1 : Rho} {xs : List V} {σ : L2.St} {vs : List Nat} {Q : L2.St → Hp → Prop}, asgs l ds ρ = some ρ1 → RelDs K H ds xs → RelS K H ρ σ → (∀ i ∈ tgSlots l, i ∈ vs) →
    (∀ σ1, RelS K H ρ1 σ1 → wipe σ1 vs = wipe σ vs → Q σ1 H) → tgGs K l xs σ H Q
  | .nil, [], ρ, ρ1, xs, σ, vs, Q, e, r, rs, hs, kk => by
    simp only [asgs] at e
    cases e
    simp only [RelDs] at r
    subst r
    exact ⟨rfl, kk σ rs rfl⟩
  | .cons t l, d :: ds, ρ, ρ1, xs, σ, vs, Q, e, r, rs, hs, kk => by
    simp only [asgs] at e
    simp only [RelDs] at r
    obtain ⟨v, ws, rfl, r1, r2⟩ := r
    cases e1 : asg t d ρ with
    | none => rw [e1] at e; cases e
    | some ρ' =>
      rw [e1] at e
      refine ⟨v, ws, rfl, asg_ok e1 r1 rs (fun i hi => hs i (by simp only [tgSlots, List.mem_append]; exact .inl hi)) fun σ1 rs1 w1 => ?_⟩
      exact asgs_ok e r2 rs1 (fun i hi => hs i (by simp only [tgSlots, List.mem_append]; exact .inr hi)) fun σ2 rs2 w2 => kk σ2 rs2 (w2.trans w1)
  | .nil, _ :: _, _, _, _, _, _, _, e, _, _, _, _ => by simp only [asgs] at e; cases e
  | .cons _ _, [], _, _, _, _, _, _, e, _, _, _, _ => by simp only [asgs] at e; cases e
  | .nm _, _, _, _, _, _, _, _, e, _, _, _, _ => by simp only [asgs] at e; cases e
  | .tup _, _, _, _, _, _, _, _, e, _, _, _, _ => by simp only [asgs] at e; cases e
end
end
end Lit
namespace Lit
open PySem PySem.Spec PyProof.Rows L2
section
variable {K : PySem.W.Frag} {H H' : Hp} {h h' : PH} {x : Addr}
/-- a place that is not told is put otherwise -/
theorem RelH.aside {u : HO} (r : RelH K H h) (n : NoT H x) (hn : h x = none) : RelH K (upd H x u) h := fun b ob e => by
  have hb : b ≠ x := fun z => by rw [z, hn] at e; cases e
  exact RelO.keep (K := K) (a := b) (Stay.upd.keeps n) (fun w z => by rw [upd_ne hb]; exact z) (r b ob e)
/-- .. a place that was free at first -/
theorem Frm.aside {H1 : Hp} {h1 : PH} {u : HO} (f : Frm H1 h1 H h) (n : H1 x = none) : Frm H1 h1 (upd H x u) h := fun b w e nn => by
  rw [upd_ne (fun z => by rw [z, n] at e; cases e)]
  exact f b w e nn
theorem Frm.told {H1 : Hp} {h1 : PH} {o : PO} (f : Frm H1 h1 H h) (n : H1 x = none) : Frm H1 h1 H (updP h x o) := fun b w e nn => by
  rw [updP_ne (fun z => by rw [z, n] at e; cases e)]
  exact f b w e nn
theorem RelH.tell {o : PO} (r : RelH K H h) (q : RelO K H x o) : RelH K H (updP h x o) := fun b ob e => by
  by_cases hb : b = x
  · subst hb
    rw [updP_same] at e
    cases e
    exact q
  · rw [updP_ne hb] at e
    exact r b ob e
end
theorem ext_upd {h : PH} {D : Addr} {o : PO} (n : h D = none) : Ext h (updP h D o) := fun b u e => by
  rw [updP_ne (fun z => by rw [z, n] at e; cases e)]
  exact e
theorem drop_some {α : Type} : ∀ {l : List α} {i : Nat} {d : α}, l[i]? = some d → l.drop i = d :: l.drop (i + 1)
  | [], _, _, e => by simp at e
  | a :: l, 0, d, e => by simp at e; subst e; rfl
  | a :: l, i + 1, d, e => by
    show l.drop i = d :: l.drop (i + 1)
    exact drop_some (by simpa using e)
/-- a comprehension's turns -/
theorem lc_lift {fz : Bool} {K : PySem.W.Frag} {W : WX} {it : RI} {cond : RT} {elt : RE} {tg : Tg} {vs : List Nat} {wi : TI} (hw : ∀ σ H R, liftI K W it σ H R → wi σ H R) (ht : ∀ i ∈ tgSlots tg, i ∈ vs) :
    ∀ σ H Q Q2, (∀ v H, frQ Q v H → Q2 v H) → liftE K W (fun ρ h xq Q => it ρ h xq fun items stay h1 => compLoop tg vs cond elt stay ρ items [] h1 fun acc h2 => newL fz acc h2 Q) σ H Q →
      tLc wi (tgG K tg) (liftT K (fun _ _ _ _ => False) cond) (liftE K (fun _ _ _ _ => False) elt) vs σ H Q2 := fun σ H Q Q2 hq2 ⟨ρ, h, xq, Qd, rs, rh, q, out, ox⟩ => by
  refine hw _ _ _ ?_
  refine liftI.bind rs rh q ox fun items stay h1 J H1 q1 wd rh1 f1 k1 rs1 ox1 => ?_
  intro D hD
  obtain ⟨st1, G, Y, w, hG, hY⟩ := wd
  refine lc_it w (fun i H => ∃ h acc ws, RelH K H h ∧ Frm H1 h1 H h ∧ H D = some (.lst ws) ∧ RelDs K H acc ws ∧ h D = none ∧ stay h ∧ compLoop tg vs cond elt stay ρ (items.drop i) acc h fun acc h2 => newL fz acc h2 Qd) ?_ ?_ ?_ ?_
  · exact ⟨h1, [], [], rh1.laid hD (rh1.free hD), .laid hD, upd_same, .nil, rh1.free hD, st1, q1⟩
  · rintro i H - ⟨h, acc, ws, rh, f, _, _, _, st, _⟩
    exact hG H h f rh st
  · rintro i x H H' hi ⟨h, acc, ws, rh, f, hDl, rd, hDn, st, cl⟩ y
    obtain ⟨d, hd, rx, rh', f'⟩ := hY i H h x H' hi f rh st y
    rw [drop_some hd] at cl
    simp only [compLoop] at cl
    cases ea : asg tg d (wipeR ρ vs) with
    | none => rw [ea] at cl; exact cl.elim
    | some ρ1 =>
      rw [ea] at cl
      have fx := f.trans f'
      have kx := fx.keeps rh1
      refine asg_ok ea rx (wipeR_rel (rs1.keep kx) vs) ht fun σ1 rsA wA => ⟨wA.trans (wipe_wipe _ _), ?_⟩
      refine liftT.bind rsA rh' cl OutX.none fun b h2 H2 q2 rh2 f2 k2 rs2 _ => ?_
      have fD := (f' D _ hDl hDn)
      have fD2 := f2 D _ fD.1 fD.2
      have fx2 := fx.trans f2
      have k02 := (f'.trans f2).keeps rh
      cases b with
      | false =>
        rw [if_neg (by decide)]
        exact ⟨h2, acc, ws, rh2, fx2, fD2.1, rd.keep k02, fD2.2, q2.1, q2.2⟩
      | true =>
        rw [if_pos rfl]
        refine liftE.bind rs2 rh2 q2 OutX.none fun y h3 v H3 q3 r3 rh3 f3 k3 _ _ => ?_
        have fD3 := f3 D _ fD2.1 fD2.2
        have nt : NoT H3 D := .of fD3.1 (fun _ c => nomatch c) (fun _ _ c => nomatch c) fun _ c => nomatch c
        have kd : Keeps H3 (upd H3 D (.lst (ws ++ [v]))) := Stay.upd.keeps nt
        have rdd : RelDs K H3 acc ws := (rd.keep k02).keep k3
        refine ⟨ws, fD3.1, by rw [rdd.len]; exact q3.1, h3, acc ++ [y], ws ++ [v], rh3.aside nt fD3.2, (fx2.trans f3).aside hD, upd_same, ((rdd.append (.one r3))).keep kd, fD3.2, q3.2.1, q3.2.2⟩
  · rintro H2 ⟨h2, acc, ws, rh2, f2, hDl, rd, hDn, st, cl⟩
    rw [List.drop_length] at cl
    simp only [compLoop] at cl
    cases fz with
    | false =>
      have al := cl D (updP h2 D (.lst acc)) hDn updP_same (ext_upd hDn)
      exact hq2 _ _ (.inl ((out.step f1) _ _ (.ref D) H2 al (by simp only [RelD]) (rh2.tell ⟨ws, hDl, rd⟩) (f2.told hD)))
    | true =>
      refine hq2 _ _ ((out.step f1).frz (h1 := updP h2 D (.lst acc)) (d := .ref D) ?_ (by simp only [RelD]) (rh2.tell ⟨ws, hDl, rd⟩) (f2.told hD))
      show (match updP h2 D (.lst acc) D with
        | some (.lst ds) => ∃ h3, Ext h3 (updP h2 D (.lst acc)) ∧ h3 D = none ∧ Qd (.rol ds) h3
        | _ => False)
      rw [updP_same]
      exact ⟨h2, ext_upd hDn, hDn, cl⟩
theorem len_nats : ∀ (vs : List Nat) (N : List Str), (vs.map fun i => (N.getD i "", i)).map (·.2) = vs
  | [], _ => rfl
  | v :: vs, N => by simp [List.map_map, Function.comp_def]
section
variable {X : Cx} {W : WX} {k : Nat} {G : Sig}
theorem stores_blk {s : Shared} {H : Hp} {scope : Scope} {cl : List (Str × Addr)} {C : Addr} {fp : List Addr} : Stores (X.blk s H scope (compEnvC scope cl C X.env) fp) (some scope) := fun x h => by
  have sc : (X.blk s H scope (compEnvC scope cl C X.env) fp).env.scope = relS scope X.env.scope := rfl
  rw [sc] at h ⊢
  unfold stB at h
  simp only [Option.getD_some] at h
  split at h
  · rename_i e
    have z := lookup_relS_keep (sc := X.env.scope) (by decide : NameKind.local ≠ .free) e
    exact ⟨.inl z, .inr z⟩
  · rename_i e
    have z := lookup_relS_keep (sc := X.env.scope) (by decide : NameKind.cell ≠ .free) e
    refine ⟨.inr z, .inl ?_⟩
    show (scope.names.lookup x == some NameKind.cell) = true
    rw [e]
    rfl
  · cases h
theorem s_comp {fz : Bool} (c : Ctx X W k G) {elt tg iter : Expr} {ifs : List Expr} {scope : Scope} {pos : Pos} {ri : RI} {rc : RT} {re : RE} {t : Tg} {vs : List Nat} (hi : PI X tg iter (liftI X.K W ri)) (hb : blkC X.N X.env.scope scope (vs.map fun i => (X.N.getD i "", i)) = true)
    (hg : chkTg (G.ck X.N) (relS scope X.env.scope) (some scope) t tg = true) (hv : (tgSlots t).all (fun i => vs.contains i) = true) (oi : okHead iter = true)
    (ht : ∀ (s : Shared) (H : Hp) (C : Addr) (cl : List (Str × Addr)) (fp : List Addr), PTs (X.blk s H scope (compEnvC scope cl C X.env) fp) ifs (liftT X.K (fun _ _ _ _ => False) rc))
    (he : ∀ (s : Shared) (H : Hp) (C : Addr) (cl : List (Str × Addr)) (fp : List Addr), PE (X.blk s H scope (compEnvC scope cl C X.env) fp) elt (liftE X.K (fun _ _ _ _ => False) re)) :
    PE X (.ListComp elt [⟨tg, iter, ifs, 0⟩] scope pos) (liftE X.K W fun ρ h xq Q => ri ρ h xq fun items stay h1 => compLoop t vs rc re stay ρ items [] h1 fun acc h2 => newL fz acc h2 Q) := by
  have p := pe_lc (elt := elt) (pos := pos) (g := tgG X.K t) c.calm c.nd hi (blkOk_by hb) (fun s H C cl fp => pg_tg (N := []) (c.blk s H scope (compEnvC scope cl C X.env) fp) stores_blk hg) ht he (folded_ok oi _)
  rw [len_nats] at p
  refine p.fr.lift fun σ H Q q => lc_lift (fun _ _ _ z => z) (fun i hi => ?_) σ H Q _ (fun _ _ z => z) q
  have z := List.all_eq_true.mp hv i hi
  simpa using z
theorem s_setLc {fz : Bool} (c : Ctx X W k G) {i : Nat} {y : Str} {py spos : Pos} {elt tg iter : Expr} {ifs : List Expr} {scope : Scope} {pos : Pos} {ri : RI} {rc : RT} {re : RE} {t : Tg} {vs : List Nat} (hy : X.N[i]? = some y) (hyl : X.env.scope.names.lookup y = some .local)
    (hsw : swapsWith (.ListComp elt [⟨tg, iter, ifs, 0⟩] scope pos) (some (.Name y py)) spos.line X.env = pure true) (hi : PI X tg iter (liftI X.K W ri)) (hb : blkC X.N X.env.scope scope (vs.map fun i => (X.N.getD i "", i)) = true)
    (hg : chkTg (G.ck X.N) (relS scope X.env.scope) (some scope) t tg = true) (hv : (tgSlots t).all (fun i => vs.contains i) = true) (oi : okHead iter = true)
    (ht : ∀ (s : Shared) (H : Hp) (C : Addr) (cl : List (Str × Addr)) (fp : List Addr), PTs (X.blk s H scope (compEnvC scope cl C X.env) fp) ifs (liftT X.K (fun _ _ _ _ => False) rc))
    (he : ∀ (s : Shared) (H : Hp) (C : Addr) (cl : List (Str × Addr)) (fp : List Addr), PE (X.blk s H scope (compEnvC scope cl C X.env) fp) elt (liftE X.K (fun _ _ _ _ => False) re)) :
    PS X (.Assign [.Name y py] (.ListComp elt [⟨tg, iter, ifs, 0⟩] scope pos) spos) (tAsg (liftE X.K W fun ρ h xq Q => ri ρ h xq fun items stay h1 => compLoop t vs rc re stay ρ items [] h1 fun acc h2 => newL fz acc h2 Q) (gName i)) := by
  have p := ps_setLc (elt := elt) (pos := pos) (g := tgG X.K t) c.calm c.nd hy hyl hsw hi (blkOk_by hb) (fun s H C cl fp => pg_tg (N := []) (c.blk s H scope (compEnvC scope cl C X.env) fp) stores_blk hg) ht he (folded_ok oi _)
  rw [len_nats] at p
  refine p.fr.lift fun D σ H q => lc_lift (fun _ _ _ z => z) (fun i hi => ?_) σ H _ _ (fun _ _ z => frQ_gName z) q
  have z := List.all_eq_true.mp hv i hi
  simpa using z
end
end Lit
/-! Constants of the module: tuples of texts, dicts of these; refusals made as values; zip. -/
namespace Lit
open PySem PySem.Spec PyProof.Rows L2
theorem relF_zip {K : PySem.W.Frag} {H : Hp} : ∀ {fs : List Str} {ds : List D} {vs : List V}, RelDs K H ds vs → RelF K H (fs.zip ds) (fs.zip vs)
  | [], _, _, _ => by simp [RelF]
  | f :: fs, [], _, r => by
    simp only [RelDs] at r
    subst r
    simp [RelF]
  | f :: fs, d :: ds, _, r => by
    simp only [RelDs] at r
    obtain ⟨v, r', rfl, h1, h2⟩ := r
    exact ⟨v, _, rfl, h1, relF_zip h2⟩
theorem relF_app {K : PySem.W.Frag} {H : Hp} : ∀ {as bs : List (Str × D)} {us vs : List (Str × V)}, RelF K H as us → RelF K H bs vs → RelF K H (as ++ bs) (us ++ vs)
  | [], _, _, _, r, s => by cases (show _ = [] from r); exact s
  | (f, d) :: as, _, _, _, ⟨v, r, e, h1, h2⟩, s => by
    subst e
    exact ⟨v, _, rfl, h1, relF_app h2 s⟩
theorem relF_rev {K : PySem.W.Frag} {H : Hp} : ∀ {as : List (Str × D)} {us : List (Str × V)}, RelF K H as us → RelF K H as.reverse us.reverse
  | [], _, r => by cases (show _ = [] from r); exact rfl
  | (f, d) :: as, _, ⟨v, r, e, h1, h2⟩ => by
    subst e
    rw [List.reverse_cons, List.reverse_cons]
    exact relF_app (relF_rev h2) ⟨v, [], rfl, h1, rfl⟩
section
variable {X : Cx} {W : WX} {k : Nat} {G : Sig}
theorem s_gtup (c : Ctx X W k G) {y : Str} {ss : List (List Nat)} {pos : Pos} (h : (glB X.env.scope y && noDbg y && decide ((y, ss) ∈ (G.ck X.N).gts)) = true) : PE X (.Name y pos) (liftE X.K W fun _ h _ Q => Q (.tup (ss.map D.str)) h) := by
  obtain ⟨h1, h2⟩ := an h
  obtain ⟨h3, h4⟩ := an h1
  obtain ⟨a, e, kt⟩ := c.gts y ss (of_decide_eq_true h2)
  exact s_val (pe_glob (v := .ref a) (gl_ok h3) e rfl (noDbg_ok h4).1) fun H => kt.rel H
theorem gd_at (c : Ctx X W k G) {y : Str} {kvs : List (List Nat × List (List Nat))} (h : (glB X.env.scope y && noDbg y && decide ((y, kvs) ∈ (G.ck X.N).gds)) = true) : ∃ a, KDx X.K X.w a kvs ∧ ∀ pos, PE X (.Name y pos) (tC (.ref a)) := by
  obtain ⟨h1, h2⟩ := an h
  obtain ⟨h3, h4⟩ := an h1
  obtain ⟨a, e, kd⟩ := c.gds y kvs (of_decide_eq_true h2)
  exact ⟨a, kd, fun pos => pe_glob (v := .ref a) (gl_ok h3) e rfl (noDbg_ok h4).1⟩
theorem KDx.at_ {K : PySem.W.Frag} {w : World} {a : Addr} {kvs : List (List Nat × List (List Nat))} (d : KDx K w a kvs) (s : List Nat) : ∃ r, PySem.W.nsIn K a (mkS s) = some r ∧ r.isSome = (kvs.lookup s).isSome := by
  cases e : kvs.lookup s with
  | none => exact ⟨none, d.no s e, rfl⟩
  | some ss =>
    obtain ⟨T, e1, _⟩ := d.yes s ss e
    exact ⟨some (.ref T), e1, rfl⟩
theorem op_gd {a : Addr} {kvs : List (List Nat × List (List Nat))} (d : KDx X.K X.w a kvs) (neg : Bool) : OpR X (compareOp (if neg then .NotIn else .In)) (fun x y H Q => ∃ s : List Nat, x = .str (mkS s) ∧ y = .ref a ∧ Q (.bl (neg != (kvs.lookup s).isSome)) H) := by
  obtain ⟨es, n, D⟩ := d.d
  intro pins s σ H x y v u Q I rx ry hq
  obtain ⟨z, rfl, rfl, q⟩ := hq
  obtain ⟨r, e1, e2⟩ := d.at_ z
  cases neg with
  | true => exact op_notIn_kd D pins s σ H _ _ v u Q I rx ry ⟨_, r, rfl, rfl, e1, by rw [e2]; simpa using q⟩
  | false => exact op_in_kd D pins s σ H _ _ v u Q I rx ry ⟨_, r, rfl, rfl, e1, by rw [e2]; simpa using q⟩
theorem gd_op {neg : Bool} {o : CmpOp} (h : coB (if neg then .notin else .isin) o = true) : o = (if neg then .NotIn else .In) := by
  cases neg <;> cases o <;> first | rfl | cases h
theorem s_gdin (c : Ctx X W k G) {neg : Bool} {y : Str} {kvs : List (List Nat × List (List Nat))} {l : Expr} {o : CmpOp} {p pos : Pos} {ra : RE} (ho : coB (if neg then .notin else .isin) o = true) (ha : PE X l (liftE X.K W ra)) (h : (glB X.env.scope y && noDbg y && decide ((y, kvs) ∈ (G.ck X.N).gds)) = true) :
    PE X (.Compare l [o] [.Name y p] pos) (liftE X.K W fun ρ h xq Q => ra ρ h xq fun x h1 => match x with
      | .str s => Q (.bl (neg != (kvs.lookup s).isSome)) h1
      | _ => False) := by
  obtain ⟨a, d, pn⟩ := gd_at c h
  cases gd_op ho
  refine (pe_cmpR (op_gd d neg) ha (pn p) (mark_ok rfl _)).lift fun σ H Q ⟨ρ, h, xq, Qd, rs, rh, q, out, ox⟩ => ?_
  refine liftE.bind rs rh q ox fun x h1 v1 H1 q1 r1 rh1 f1 k1 rs1 ox1 => ?_
  cases x with
  | str s => exact ⟨s, relStr r1, rfl, (out.step f1).bl rh1 q1⟩
  | _ => exact q1.elim
theorem s_gdinT (c : Ctx X W k G) {neg : Bool} {y : Str} {kvs : List (List Nat × List (List Nat))} {l : Expr} {o : CmpOp} {p pos : Pos} {ra : RE} (ho : coB (if neg then .notin else .isin) o = true) (ha : PE X l (liftE X.K W ra)) (h : (glB X.env.scope y && noDbg y && decide ((y, kvs) ∈ (G.ck X.N).gds)) = true) :
    PT X (.Compare l [o] [.Name y p] pos) (liftT X.K W fun ρ h xq Q => ra ρ h xq fun x h1 => match x with
      | .str s => Q (neg != (kvs.lookup s).isSome) h1
      | _ => False) := by
  obtain ⟨a, d, pn⟩ := gd_at c h
  cases gd_op ho
  refine (pt_cmpR (op_gd d neg) ha (pn p) (mark_ok rfl _)).lift fun σ H Q ⟨ρ, h, xq, Qd, rs, rh, q, out, ox⟩ => ?_
  refine liftE.bind rs rh q ox fun x h1 v1 H1 q1 r1 rh1 f1 k1 rs1 ox1 => ?_
  cases x with
  | str s => exact ⟨s, relStr r1, rfl, _, rfl, out _ _ _ q1 rh1 f1⟩
  | _ => exact q1.elim
theorem pe_kdix {a : Addr} {es : Array DictEntry} {n : Nat} (D : KDict X.K X.w a es n) {o l : Expr} {pos : Pos} {td ti : TE} (ol : okHead l = true) (po : PE X o td) (pl : PE X l ti) :
    PE X (.Subscript o l pos) (fun σ H Q => td σ H fun x H1 => ti σ H1 fun y H2 => x = .ref a ∧ ∃ (z : Str) (u0 : Value) (v0 : V), y = .str z ∧ PySem.W.nsIn X.K a z = some (some u0) ∧ RelV v0 u0 ∧ Q v0 H2) := by
  refine ⟨fun pins s σ H Q I h => ?_⟩
  refine subD_of PySem.F.slot_dict_getitem.lookup (plainIx_ok ol) (thn (po.run pins s σ H _ I h) fun u s1 ⟨x, H1, I1, rx, q1⟩ => thn (pl.run pins s1 σ H1 _ I1 q1) fun iv s2 ⟨y, H2, I2, ry, ex, z, u0, v0, ey, e1, r0, q2⟩ => ?_)
  subst ex
  cases rx
  exact ⟨kd_type D I2, op_item_kd D pins s2 σ H2 (.ref a) y _ _ Q I2 rfl ry ⟨z, u0, v0, rfl, ey, e1, r0, q2⟩⟩
theorem s_gdix (c : Ctx X W k G) {y : Str} {kvs : List (List Nat × List (List Nat))} {l : Expr} {p pos : Pos} {ra : RE} (ol : okHead l = true) (ha : PE X l (liftE X.K W ra)) (h : (glB X.env.scope y && noDbg y && decide ((y, kvs) ∈ (G.ck X.N).gds)) = true) :
    PE X (.Subscript (.Name y p) l pos) (liftE X.K W fun ρ h xq Q => ra ρ h xq fun x h1 => match x with
      | .str s => match kvs.lookup s with
        | some ss => Q (.tup (ss.map D.str)) h1
        | none => False
      | _ => False) := by
  obtain ⟨a, d, pn⟩ := gd_at c h
  obtain ⟨es, n, D⟩ := d.d
  refine (pe_kdix D ol (pn p) ha).lift fun σ H Q ⟨ρ, h, xq, Qd, rs, rh, q, out, ox⟩ => ?_
  refine liftE.bind rs rh q ox fun x h1 v1 H1 q1 r1 rh1 f1 k1 rs1 ox1 => ?_
  cases x with
  | str s =>
    cases e : kvs.lookup s with
    | none => simp only [e] at q1
    | some ss =>
      simp only [e] at q1
      obtain ⟨T, e1, kt⟩ := d.yes s ss e
      exact ⟨rfl, mkS s, .ref T, .ref T, relStr r1, e1, rfl, (out.step f1).at rh1 q1 (kt.rel H1)⟩
  | _ => exact q1.elim
/-! ### a refusal made as a value -/
theorem pe_pmk {e : Expr} {t : L2.St → Hp → XK → Prop} (he : PMk X e t) : PE X e (fun σ H Q => t σ H fun cls d H' => ∀ a, H' a = none → Q (.ref a) (upd H' a (ExV cls d a))) := by
  refine ⟨fun pins s σ H Q I h => wpAny_mono (he pins s σ H _ I h) (fun u s1 hu => ?_) fun _ _ z => z⟩
  obtain ⟨a, oe, vs, sI, H', cls, d, rfl, J, kp, hne, ha, hz, hd, h1, na, os, ag, r, q⟩ := hu
  have new : ObjOk X.prog X.w (upd H' a (ExV cls d a)) s1.heap a (ExV cls d a) := ⟨⟨oe, ha, hz, vs, hd⟩, ⟨oe, ha⟩, fun h1 h2 ⟨o, e1, e2, e3⟩ k => ⟨o, k o e1, e2, e3⟩⟩
  exact ⟨.ref a, _, J.call' (ch := []) os (Un.laidN kp hne na) (J.hok.laidN kp na new) ag (fun b z => absurd z (by simp)), rfl, q a na⟩
theorem RelH.exc {H : Hp} {h : PH} {K : PySem.W.Frag} (rh : RelH K H h) {a : Addr} (na : H a = none) {c : Str} {fs : List (Str × D)} {d : Option Addr} (hd : (d = none ∧ fs = []) ∨ ∃ dd vs, d = some dd ∧ H dd = some (.xd vs) ∧ RelF K H fs vs) :
    RelH K (upd H a (ExV (.ref (He.ga K c)) d a)) (updP h a (.exc c fs)) ∧ Frm H h (upd H a (ExV (.ref (He.ga K c)) d a)) (updP h a (.exc c fs)) := by
  have kp : Keeps H (upd H a (ExV (.ref (He.ga K c)) d a)) := Stay.upd.keeps (.free na)
  refine ⟨rh.put (.free na) ⟨d, upd_same, ?_⟩, .put (.inr na)⟩
  rcases hd with hd | ⟨dd, vs, e1, e2, e3⟩
  · exact .inl hd
  · exact .inr ⟨dd, vs, e1, kp.d _ _ e2, e3.keep kp⟩
theorem s_mkx0 (c : Ctx X W k G) {x m : Str} {j : Nat} {p p2 pos : Pos} (e : ExK X.K X.mg x) (hpl : pExs.contains x = true) (hg : Gl X x) (hd : (x == ("__debug__" : Str)) = false) :
    PE X (.Call (.Name x p) [.Constant (.str m) j p2] [] pos) (liftE X.K W fun _ h _ Q => alloc (.exc x []) h Q) := by
  refine (pe_pmk (pmk_own F.excBase_ValueError (e.n hpl) e.g e.k (raises_own e.s e.t) hg hd)).lift fun σ H Q ⟨ρ, h, xq, Qd, rs, rh, q, out, ox⟩ => ?_
  intro a na
  obtain ⟨r1, f1⟩ := rh.exc na (c := x) (.inl ⟨rfl, rfl⟩)
  have hn := rh.free na
  exact out _ _ _ _ (q a _ hn updP_same (ext_upd hn)) (by simp only [RelD]) r1 f1
theorem s_mkx (c : Ctx X W k G) {x : Str} {fs : List Str} {e : Expr} {es : List Expr} {p pos : Pos} {ra : RA} (E : ExK X.K X.mg x) (hk : 2 ≤ k) (O : OwnI X.prog X.w X.K X.mg X.base x fs) (hl : fs.length ≤ 100) (hg : Gl X x)
    (hd : (x == ("__debug__" : Str)) = false) (ha : PA X (e :: es) (liftA X.K W ra)) (he : starEach (e :: es) X.env = (false, eval e X.env) :: starEach es X.env) (hp : (backTo pos (starEach es X.env)).any (·.1) = false) :
    PE X (.Call (.Name x p) (e :: es) [] pos) (liftE X.K W fun ρ h xq Q => ra ρ h xq fun ds h1 => ds.length = fs.length ∧ alloc (.exc x (fs.zip ds).reverse) h1 Q) := by
  obtain ⟨fd, F, B⟩ := O.fn
  refine (pe_pmk (pmk_oex O.ox O.at_ O.ty F (c.room.mono hk) B .nil C8.pass0 hg E.g ha hd he hp)).lift fun σ H Q ⟨ρ, h, xq, Qd, rs, rh, q, out, ox⟩ => ?_
  refine liftA.bind rs rh q ox fun ds h1 vs H1 q1 r1 rh1 f1 k1 rs1 _ => ?_
  obtain ⟨ql, q1⟩ := q1
  have lv : vs.length = fs.length := by rw [r1.len, ql]
  refine ⟨by omega, fun a na => ⟨a, vs, by simp, lv, O.ox, O.nf, upd_same, fun dx H' nd ne ea ed st => ⟨rfl, dx, _, ea, ed, ?_, ?_⟩⟩⟩
  · rwa [upd_ne ne] at nd
  · have nd2 : H1 dx = none := by rwa [upd_ne ne] at nd
    have eH : upd (del H' a) dx (.xd (fs.zip vs).reverse) = upd H1 dx (.xd (fs.zip vs).reverse) := by
      funext b
      by_cases hb : b = dx
      · rw [hb, upd_same, upd_same]
      · rw [upd_ne hb, upd_ne hb]
        by_cases hb2 : b = a
        · rw [hb2, del_same, na]
        · rw [del_ne hb2, st b hb2 hb, upd_ne hb2]
    rw [eH]
    have kp : Keeps H1 (upd H1 dx (.xd (fs.zip vs).reverse)) := Stay.upd.keeps (.free nd2)
    have o1 := out.step f1
    have rh2 := rh1.laid (u := .xd (fs.zip vs).reverse) nd2 (rh1.free nd2)
    have f2 : Frm H1 h1 (upd H1 dx (.xd (fs.zip vs).reverse)) h1 := Frm.laid nd2
    intro b nb
    obtain ⟨r3, f3⟩ := rh2.exc nb (c := x) (fs := (fs.zip ds).reverse) (.inr ⟨dx, _, rfl, upd_same, (relF_rev (relF_zip r1)).keep kp⟩)
    have hn := rh2.free nb
    exact o1 _ _ _ _ (q1 b _ hn updP_same (ext_upd hn)) (by simp only [RelD]) r3 (f2.trans f3)
/-! ### zip -/
theorem walk_zipT {K : PySem.W.Frag} {a b : Addr} {xs ys : List V} {n : Nat} (hn : n = min xs.length ys.length) : Walk (RZ.ItzT K a b) n (fun H => SqT K H a xs ∧ SqT K H b ys) (YPair (fun i => xs[i]?) (fun i => ys[i]?)) := by
  subst hn
  refine ⟨fun i _ hi q => ?_, fun _ q => ⟨xs, ys, q.1, q.2, by omega⟩, fun i H v H' _ q y => ?_⟩
  · have h1 : i < xs.length := by omega
    have h2 : i < ys.length := by omega
    exact ⟨xs, ys, xs[i], ys[i], q.1, q.2, by simp [h1], by simp [h2]⟩
  · obtain ⟨T, x, z, h1, h2, h3, h4, h5⟩ := y
    exact ⟨T, x, z, h1, h2, h3, h4 xs q.1, h5 ys q.2⟩
theorem rdT_is {x : D} {ds : List D} (e : rdT x = some ds) : x = .tup ds := by
  cases x <;> cases e
  rfl
theorem s_itZ (c : Ctx X W k G) {a b : Expr} {elts : List Expr} {kk : Nat} {tpos p pos : Pos} {ra rb : RE} (h : bltOk (G.ck X.N) X.env.scope "zip" = true) (ha : PE X a (liftE X.K W ra)) (hb : PE X b (liftE X.K W rb)) (oa : okHead a = true) (ob : okHead b = true) :
    PI X (.Tuple elts kk tpos) (.Call (.Name "zip" p) [a, b] [] pos) (liftI X.K W fun ρ h xq R => ra ρ h xq fun x h1 => rb ρ h1 xq fun y h2 => zipD x y h2 R) := by
  obtain ⟨hg, hm, hd, hn⟩ := bltOk_ok c h
  refine (RZ.pi_zipA hg hm (pa2 ha hb oa ob) (star_ok oa _ _) (plain1 ob _ _)).lift fun σ H R ⟨ρ, h, xq, Ri, rs, rh, q, out, ox⟩ => ?_
  refine liftE.bind rs rh q ox fun x h1 v1 H1 q1 r1 rh1 f1 k1 rs1 ox1 => ?_
  refine liftE.bind rs1 rh1 q1 ox1 fun y h2 v2 H2 q2 r2 rh2 f2 k2 _ _ => ?_
  have r1 := r1.keep k2
  have f12 := f1.trans f2
  unfold zipD at q2
  split at q2
  · rename_i ds es e1 e2
    cases rdT_is e1
    cases rdT_is e2
    obtain ⟨a1, vs, rfl, hv, rv⟩ := relTup r1
    obtain ⟨b1, ws, rfl, hw, rw_⟩ := relTup r2
    have len : (pairsD ds es).length = min vs.length ws.length := by rw [pairs_len, rv.len, rw_.len]
    refine ⟨a1, b1, vs, ws, rfl, .inr ⟨hv, hw, out _ _ h2 _ H2 q2 ?_ rh2 f12⟩⟩
    refine ⟨trivial, fun H => SqT X.K H a1 vs ∧ SqT X.K H b1 ws, YPair (fun i => vs[i]?) (fun i => ws[i]?), by rw [len]; exact walk_zipT rfl, fun H h f r _ => ⟨(f.keeps rh2).sqT hv, (f.keeps rh2).sqT hw⟩, fun i H h v H' hi f r _ ⟨T, x1, y1, ev, hT, eH, ex, ey⟩ => ?_⟩
    subst ev eH
    obtain ⟨d, hd, rd⟩ := rv.get i x1 ex
    obtain ⟨e, he, re⟩ := rw_.get i y1 ey
    obtain ⟨p1, p2, p3⟩ := pair_ok r hT (rd.keep (f.keeps rh2)) (re.keep (f.keeps rh2))
    exact ⟨_, pairs_get hd he, p1, p2, p3⟩
  · split at q2
    · rename_i ds es e1 e2
      obtain ⟨a1, rfl, kp⟩ := rdL_keep rh2 r1 e1
      obtain ⟨b1, rfl, kq⟩ := rdL_keep rh2 r2 e2
      obtain ⟨vs, hs, rv⟩ := kp H2 h2 .refl rh2 e1
      obtain ⟨ws, ht, rw_⟩ := kq H2 h2 .refl rh2 e2
      have len : (pairsD ds es).length = min ds.length es.length := pairs_len
      refine ⟨a1, b1, vs, ws, rfl, .inl ⟨hs, ht, out _ _ h2 _ H2 q2 ?_ rh2 f12⟩⟩
      refine ⟨⟨e1, e2⟩, fun H => ∃ h, Frm H2 h2 H h ∧ RelH X.K H h ∧ rdL h x = some ds ∧ rdL h y = some es, fun i H v H' => ∃ T d1 d2 y1 y2, v = .ref T ∧ H T = none ∧ H' = upd H T (.tup [y1, y2]) ∧ ds[i]? = some d1 ∧ es[i]? = some d2 ∧ RelD X.K H d1 y1 ∧ RelD X.K H d2 y2,
        ⟨fun i H hi ⟨h, f, r, z1, z2⟩ => ?_, fun H ⟨h, f, r, z1, z2⟩ => ?_, fun i H v H' hi ⟨h, f, r, z1, z2⟩ yy => ?_⟩, fun H h f r st => ⟨h, f, r, st.1, st.2⟩, fun i H h v H' hi f r st ⟨T, d1, d2, y1, y2, ev, hT, eH, hd1, hd2, rd1, rd2⟩ => ?_⟩
      · obtain ⟨us, hu, ru⟩ := kp H h (f.keeps rh2) r z1
        obtain ⟨zs, hz, rz⟩ := kq H h (f.keeps rh2) r z2
        exact (walk_zip (K := X.K) (a := a1) (b := b1) (xs := us) (ys := zs) rfl).goes i H (by rw [ru.len, rz.len, ← len]; exact hi) ⟨hu, hz⟩
      · obtain ⟨us, hu, ru⟩ := kp H h (f.keeps rh2) r z1
        obtain ⟨zs, hz, rz⟩ := kq H h (f.keeps rh2) r z2
        have z := (walk_zip (K := X.K) (a := a1) (b := b1) (xs := us) (ys := zs) rfl).stops H ⟨hu, hz⟩
        rw [ru.len, rz.len] at z
        rw [len]
        exact z
      · obtain ⟨us, hu, ru⟩ := kp H h (f.keeps rh2) r z1
        obtain ⟨zs, hz, rz⟩ := kq H h (f.keeps rh2) r z2
        obtain ⟨T, x1, y1, ev, hT, eH, ex, ey⟩ := (walk_zip (K := X.K) (a := a1) (b := b1) (xs := us) (ys := zs) rfl).yields i H v H' (by rw [ru.len, rz.len, ← len]; exact hi) ⟨hu, hz⟩ yy
        obtain ⟨d1, hd1, rd1⟩ := ru.get i x1 ex
        obtain ⟨d2, hd2, rd2⟩ := rz.get i y1 ey
        exact ⟨T, d1, d2, x1, y1, ev, hT, eH, hd1, hd2, rd1, rd2⟩
      · subst ev eH
        obtain ⟨p1, p2, p3⟩ := pair_ok r hT rd1 rd2
        exact ⟨_, pairs_get hd1 hd2, p1, p2, p3⟩
    · exact q2.elim
end
end Lit
namespace Lit
open PySem PySem.Spec PyProof.Rows L2
section
variable {c : Ck} {sc : Scope} {x : Expr}
theorem inv_var {i : Nat} {x0 : Expr} (h : chkE c sc (.var i) x0 = true) : ∃ x pos, x0 = (.Name x pos : Expr) ∧ (decide (c.N[i]? = some x) && visB sc x && noDbg x) = true := by
  unfold chkE at h
  split at h <;> first | (rename_i e; cases e; done) | (rename_i e; cases e; exact ⟨_, _, rfl, h⟩) | cases h
theorem inv_int {i : Int} (h : chkE c sc (.int i) x = true) : ∃ j n pos, x = (.Constant (.int j) n pos : Expr) ∧ decide (i = j) = true := by
  unfold chkE at h
  split at h <;> first | (rename_i e; cases e; done) | (rename_i e; cases e; exact ⟨_, _, _, rfl, h⟩) | cases h
theorem inv_bl {i : Bool} (h : chkE c sc (.bl i) x = true) : ∃ j n pos, x = (.Constant (.bool j) n pos : Expr) ∧ decide (i = j) = true := by
  unfold chkE at h
  split at h <;> first | (rename_i e; cases e; done) | (rename_i e; cases e; exact ⟨_, _, _, rfl, h⟩) | cases h
theorem inv_str {i : List Nat} (h : chkE c sc (.str i) x = true) : ∃ j n pos, x = (.Constant (.str j) n pos : Expr) ∧ decide (mkS i = j) = true := by
  unfold chkE at h
  split at h <;> first | (rename_i e; cases e; done) | (rename_i e; cases e; exact ⟨_, _, _, rfl, h⟩) | cases h
theorem inv_non  (h : chkE c sc (.non) x = true) : ∃ n pos, x = (.Constant .none n pos : Expr) ∧ True := by
  unfold chkE at h
  split at h <;> first | (rename_i e; cases e; done) | (rename_i e; cases e; exact ⟨_, _, rfl, trivial⟩) | cases h
theorem inv_gint {y : Str} {i : Int} {x0 : Expr} (h : chkE c sc (.gint y i) x0 = true) : ∃ x pos, x0 = (.Name x pos : Expr) ∧ (decide (y = x) && glB sc x && noDbg x && decide ((y, i) ∈ c.gis)) = true := by
  unfold chkE at h
  split at h <;> first | (rename_i e; cases e; done) | (rename_i e; cases e; exact ⟨_, _, rfl, h⟩) | cases h
theorem inv_gstr {y : Str} {i : List Nat} {x0 : Expr} (h : chkE c sc (.gstr y i) x0 = true) : ∃ x pos, x0 = (.Name x pos : Expr) ∧ (decide (y = x) && glB sc x && noDbg x && decide ((y, i) ∈ c.gss)) = true := by
  unfold chkE at h
  split at h <;> first | (rename_i e; cases e; done) | (rename_i e; cases e; exact ⟨_, _, rfl, h⟩) | cases h
theorem inv_isx {a : E} {t : Str} {ks : List Str} (h : chkE c sc (.isx a t ks) x = true) : ∃ n p y tn p2 pos, x = (.Call (.Name n p) [y, .Name tn p2] [] pos : Expr) ∧ (decide (n = "isinstance") && bltOk c sc n && (okHead y && chkE c sc a y) && decide (tn = t) && (if t = "ValueError" then bltOk c sc tn else glB sc tn && noDbg tn && c.exs.contains t) && ks.all (fun k => c.exs.contains k)) = true := by
  unfold chkE at h
  split at h <;> first | (rename_i e; cases e; done) | (rename_i e; cases e; exact ⟨_, _, _, _, _, _, rfl, h⟩) | cases h
theorem inv_xfld {a : E} {f : Str} {ks : List Str} (h : chkE c sc (.xfld a f ks) x = true) : ∃ y n pos, x = (.Attribute y n pos : Expr) ∧ (decide (n = f) && (!(call0 y)) && (okHead y && chkE c sc a y) && xFlds.contains f && ks.all (fun k => c.exs.contains k)) = true := by
  unfold chkE at h
  split at h <;> first | (rename_i e; cases e; done) | (rename_i e; cases e; exact ⟨_, _, _, rfl, h⟩) | cases h
theorem inv_op {fz : Bool} {o : BOp} {a b : E} (h : chkE c sc (.op fz o a b) x = true) : ∃ l o' r pos, x = (.BinOp l o' r pos : Expr) ∧ (opB o o' && (okHead l && chkE c sc a l) && (okHead r && chkE c sc b r)) = true := by
  unfold chkE at h
  split at h <;> first | (rename_i e; cases e; done) | (rename_i e; cases e; exact ⟨_, _, _, _, rfl, h⟩) | cases h
theorem inv_neg {a : E} (h : chkE c sc (.neg a) x = true) : ∃ v pos, x = (.UnaryOp .USub v pos : Expr) ∧ (okHead v && chkE c sc a v) = true := by
  unfold chkE at h
  split at h <;> first | (rename_i e; cases e; done) | (rename_i e; cases e; exact ⟨_, _, rfl, h⟩) | cases h
theorem inv_cmp {o : COp} {a b : E} (h : chkE c sc (.cmp o a b) x = true) : ∃ l o' r pos, x = (.Compare l [o'] [r] pos : Expr) ∧ (coB o o' && (okHead l && chkE c sc a l) && (okHead r && chkE c sc b r)) = true := by
  unfold chkE at h
  split at h <;> first | (rename_i e; cases e; done) | (rename_i e; cases e; exact ⟨_, _, _, _, rfl, h⟩) | cases h
theorem inv_chain {o o2 : COp} {a b d : E} (h : chkE c sc (.chain o o2 a b d) x = true) : ∃ l o' o2' m r pos, x = (.Compare l [o', o2'] [m, r] pos : Expr) ∧ (coB o o' && coB o2 o2' && (okHead l && chkE c sc a l) && (okHead m && chkE c sc b m) && (okHead r && chkE c sc d r)) = true := by
  unfold chkE at h
  split at h <;> first | (rename_i e; cases e; done) | (rename_i e; cases e; exact ⟨_, _, _, _, _, _, rfl, h⟩) | cases h
theorem inv_land {es : E} (h : chkE c sc (.land es) x = true) : ∃ vs pos, x = (.BoolOp .And vs pos : Expr) ∧ (chkB c sc es vs && decide (2 ≤ vs.length)) = true := by
  unfold chkE at h
  split at h <;> first | (rename_i e; cases e; done) | (rename_i e; cases e; exact ⟨_, _, rfl, h⟩) | cases h
theorem inv_lor {es : E} (h : chkE c sc (.lor es) x = true) : ∃ vs pos, x = (.BoolOp .Or vs pos : Expr) ∧ (chkB c sc es vs && decide (2 ≤ vs.length)) = true := by
  unfold chkE at h
  split at h <;> first | (rename_i e; cases e; done) | (rename_i e; cases e; exact ⟨_, _, rfl, h⟩) | cases h
theorem inv_lnot {a : E} (h : chkE c sc (.lnot a) x = true) : ∃ v pos, x = (.UnaryOp .Not v pos : Expr) ∧ (okHead v && testOk a v && chkE c sc a v) = true := by
  unfold chkE at h
  split at h <;> first | (rename_i e; cases e; done) | (rename_i e; cases e; exact ⟨_, _, rfl, h⟩) | cases h
theorem inv_ife {t a b : E} (h : chkE c sc (.ife t a b) x = true) : ∃ u y z pos, x = (.IfExp u y z pos : Expr) ∧ ((okHead u && testOk t u && chkE c sc t u) && (okHead y && chkE c sc a y) && (okHead z && chkE c sc b z)) = true := by
  unfold chkE at h
  split at h <;> first | (rename_i e; cases e; done) | (rename_i e; cases e; exact ⟨_, _, _, _, rfl, h⟩) | cases h
theorem inv_tup {es : E} (h : chkE c sc (.tup es) x = true) : ∃ vs k pos, x = (.Tuple vs k pos : Expr) ∧ chkA c sc es vs = true := by
  unfold chkE at h
  split at h <;> first | (rename_i e; cases e; done) | (rename_i e; cases e; exact ⟨_, _, _, rfl, h⟩) | cases h
theorem inv_lst {fz : Bool} {es : E} (h : chkE c sc (.lst fz es) x = true) : ∃ vs pos, x = (.List vs pos : Expr) ∧ chkA c sc es vs = true := by
  unfold chkE at h
  split at h <;> first | (rename_i e; cases e; done) | (rename_i e; cases e; exact ⟨_, _, rfl, h⟩) | cases h
theorem inv_dic {es : E} (h : chkE c sc (.dic es) x = true) : ∃ ks vs pos, x = (.Dict ks vs pos : Expr) ∧ (chkD c sc es ks vs && decide (ks.length ≤ 15)) = true := by
  unfold chkE at h
  split at h <;> first | (rename_i e; cases e; done) | (rename_i e; cases e; exact ⟨_, _, _, rfl, h⟩) | cases h
theorem inv_ix {a i : E} (h : chkE c sc (.ix a i) x = true) : ∃ o s pos, x = (.Subscript o s pos : Expr) ∧ ((okHead o && chkE c sc a o) && (okHead s && chkE c sc i s)) = true := by
  unfold chkE at h
  split at h <;> first | (rename_i e; cases e; done) | (rename_i e; cases e; exact ⟨_, _, _, rfl, h⟩) | cases h
theorem inv_sl {fz : Bool} {a lo hi : E} (h : chkE c sc (.sl fz a lo hi) x = true) : ∃ o l h p pos, x = (.Subscript o (.Slice l h none p) pos : Expr) ∧ ((okHead o && chkE c sc a o) && (match l with | none => isNil lo | some x => okHead x && chkE c sc lo x) && (match h with | none => isNil hi | some x => okHead x && chkE c sc hi x)) = true := by
  unfold chkE at h
  split at h <;> first | (rename_i e; cases e; done) | (rename_i e; cases e; exact ⟨_, _, _, _, _, rfl, h⟩) | cases h
theorem inv_rev {fz : Bool} {a : E} (h : chkE c sc (.rev fz a) x = true) : ∃ o n p1 p2 p3 pos, x = (.Subscript o (.Slice none none (some (.UnaryOp .USub (.Constant (.int 1) n p1) p2)) p3) pos : Expr) ∧ (okHead o && chkE c sc a o) = true := by
  unfold chkE at h
  split at h <;> first | (rename_i e; cases e; done) | (rename_i e; cases e; exact ⟨_, _, _, _, _, _, rfl, h⟩) | cases h
theorem inv_b1 {f : B1} {a : E} (h : chkE c sc (.b1 f a) x = true) : ∃ n p y pos, x = (.Call (.Name n p) [y] [] pos : Expr) ∧ (decide (n = b1Nm f) && bltOk c sc n && (okHead y && chkE c sc a y)) = true := by
  unfold chkE at h
  split at h <;> first | (rename_i e; cases e; done) | (rename_i e; cases e; exact ⟨_, _, _, _, rfl, h⟩) | cases h
theorem inv_b2 {f : B2} {a b : E} (h : chkE c sc (.b2 f a b) x = true) : ∃ n p y z pos, x = (.Call (.Name n p) [y, z] [] pos : Expr) ∧ (decide (n = b2Nm f) && bltOk c sc n && (okHead y && chkE c sc a y) && (okHead z && chkE c sc b z)) = true := by
  unfold chkE at h
  split at h <;> first | (rename_i e; cases e; done) | (rename_i e; cases e; exact ⟨_, _, _, _, _, rfl, h⟩) | cases h
theorem inv_isi {a : E} {t : Ty} (h : chkE c sc (.isi a t) x = true) : ∃ n p y tn p2 pos, x = (.Call (.Name n p) [y, .Name tn p2] [] pos : Expr) ∧ (decide (n = "isinstance") && bltOk c sc n && (okHead y && chkE c sc a y) && decide (tn = tyNmS t) && bltOk c sc tn && bltTy t) = true := by
  unfold chkE at h
  split at h <;> first | (rename_i e; cases e; done) | (rename_i e; cases e; exact ⟨_, _, _, _, _, _, rfl, h⟩) | cases h
theorem inv_mth {m : Mth} {o es : E} (h : chkE c sc (.mth m o es) x = true) : ∃ r n ap args cp, x = (.Call (.Attribute r n ap) args [] cp : Expr) ∧ (decide (n = mthNm m) && (!(call0 r) && decide (m ≠ .lindex)) && (ap.endLine == cp.line) && (okHead r && chkE c sc o r) && chkA c sc es args && decide (args.length < 20)) = true := by
  unfold chkE at h
  split at h <;> first | (rename_i e; cases e; done) | (rename_i e; cases e; exact ⟨_, _, _, _, _, rfl, h⟩) | cases h
theorem inv_call {i : Nat} {es : E} (h : chkE c sc (.call i es) x = true) : ∃ f p args pos, x = (.Call (.Name f p) args [] pos : Expr) ∧ (decide (c.fns[i]? = some (f, none)) && glB sc f && noDbg f && !args.isEmpty && chkA c sc es args) = true := by
  unfold chkE at h
  split at h <;> first | (rename_i e; cases e; done) | (rename_i e; cases e; exact ⟨_, _, _, _, rfl, h⟩) | cases h
theorem inv_meth {i : Nat} {cn m : Str} {o es : E} (h : chkE c sc (.meth i cn m o es) x = true) : ∃ r n ap args cp, x = (.Call (.Attribute r n ap) args [] cp : Expr) ∧ (decide (n = m) && decide (c.fns[i]? = some (cn, some m)) && c.cls.contains cn && !(call0 r) && (ap.endLine == cp.line) && (okHead r && chkE c sc o r) && chkA c sc es args && decide (args.length < 20) && decide (m ≠ ("__init__" : Str))) = true := by
  unfold chkE at h
  split at h <;> first | (rename_i e; cases e; done) | (rename_i e; cases e; exact ⟨_, _, _, _, _, rfl, h⟩) | cases h
theorem inv_make {i : Nat} {cn : Str} {es : E} (h : chkE c sc (.make i cn es) x = true) : ∃ f p args pos, x = (.Call (.Name f p) args [] pos : Expr) ∧ (decide (f = cn) && decide (c.fns[i]? = some (cn, some ("__init__" : Str))) && c.cls.contains cn && glB sc f && noDbg f && !args.isEmpty && chkA c sc es args) = true := by
  unfold chkE at h
  split at h <;> first | (rename_i e; cases e; done) | (rename_i e; cases e; exact ⟨_, _, _, _, rfl, h⟩) | cases h
theorem inv_fld {o : E} {f : Str} {cs : List Str} (h : chkE c sc (.fld o f cs) x = true) : ∃ y n pos, x = (.Attribute y n pos : Expr) ∧ (decide (n = f) && (!(call0 y)) && (okHead y && chkE c sc o y) && c.flds.contains f && cs.all (fun k => c.cls.contains k)) = true := by
  unfold chkE at h
  split at h <;> first | (rename_i e; cases e; done) | (rename_i e; cases e; exact ⟨_, _, _, rfl, h⟩) | cases h
theorem inv_gtup {y : Str} {ss : List (List Nat)} {x0 : Expr} (h : chkE c sc (.gtup y ss) x0 = true) : ∃ x pos, x0 = (.Name x pos : Expr) ∧ (decide (y = x) && glB sc x && noDbg x && decide ((y, ss) ∈ c.gts)) = true := by
  unfold chkE at h
  split at h <;> first | (rename_i e; cases e; done) | (rename_i e; cases e; exact ⟨_, _, rfl, h⟩) | cases h
theorem inv_gdin {neg : Bool} {y : Str} {kvs : List (List Nat × List (List Nat))} {a : E} (h : chkE c sc (.gdin neg y kvs a) x = true) : ∃ l o' n p pos, x = (.Compare l [o'] [.Name n p] pos : Expr) ∧ (coB (if neg then .notin else .isin) o' && (okHead l && chkE c sc a l) && (decide (y = n) && glB sc n && noDbg n && decide ((y, kvs) ∈ c.gds))) = true := by
  unfold chkE at h
  split at h <;> first | (rename_i e; cases e; done) | (rename_i e; cases e; exact ⟨_, _, _, _, _, rfl, h⟩) | cases h
theorem inv_gdix {y : Str} {kvs : List (List Nat × List (List Nat))} {a : E} (h : chkE c sc (.gdix y kvs a) x = true) : ∃ n p s pos, x = (.Subscript (.Name n p) s pos : Expr) ∧ ((decide (y = n) && glB sc n && noDbg n && decide ((y, kvs) ∈ c.gds)) && (okHead s && chkE c sc a s)) = true := by
  unfold chkE at h
  split at h <;> first | (rename_i e; cases e; done) | (rename_i e; cases e; exact ⟨_, _, _, _, rfl, h⟩) | cases h
theorem inv_mkx0 {y : Str} (h : chkE c sc (.mkx0 y) x = true) : ∃ n p m j p2 pos, x = (.Call (.Name n p) [.Constant (.str m) j p2] [] pos : Expr) ∧ (decide (n = y) && glB sc n && noDbg n && c.exs.contains y && pExs.contains y) = true := by
  unfold chkE at h
  split at h <;> first | (rename_i e; cases e; done) | (rename_i e; cases e; exact ⟨_, _, _, _, _, _, rfl, h⟩) | cases h
theorem inv_mkx {y : Str} {fs : List Str} {es : E} (h : chkE c sc (.mkx y fs es) x = true) : ∃ n p args pos, x = (.Call (.Name n p) args [] pos : Expr) ∧ (decide (n = y) && glB sc n && noDbg n && c.exs.contains y && decide (iniF.lookup y = some fs) && decide (fs.length ≤ 100) && !args.isEmpty && chkA c sc es args) = true := by
  unfold chkE at h
  split at h <;> first | (rename_i e; cases e; done) | (rename_i e; cases e; exact ⟨_, _, _, _, rfl, h⟩) | cases h
theorem inv_comp {fz : Bool} {it : E} {tg : Tg} {vs : List Nat} {cond elt : E} (h : chkE c sc (.comp fz it tg vs cond elt) x = true) : ∃ e t iter ifs scope pos, x = (.ListComp e [⟨t, iter, ifs, 0⟩] scope pos : Expr) ∧ (chkI c sc it t iter && blkC c.N sc scope (vs.map fun i => (c.N.getD i "", i)) && chkTg c (relS scope sc) (some scope) tg t && (tgSlots tg).all (fun i => vs.contains i) && okHead iter &&
      chkC c (relS scope sc) cond ifs && (okHead e && chkE c (relS scope sc) elt e)) = true := by
  unfold chkE at h
  split at h <;> first | (rename_i e; cases e; done) | (rename_i e; cases e; exact ⟨_, _, _, _, _, _, rfl, h⟩) | cases h
theorem chkD_nil {e : E} {vs : List Expr} (h : chkD c sc e [] vs = true) : e = .nil ∧ vs = [] := by
  unfold chkD at h
  split at h <;> first | exact ⟨rfl, rfl⟩ | (rename_i e; cases e; done) | (rename_i e _; cases e; done) | cases h
theorem chkD_cons {e : E} {k : Option Expr} {ks : List (Option Expr)} {vs : List Expr} (h : chkD c sc e (k :: ks) vs = true) : ∃ a b r x y ws, e = .cons a (.cons b r) ∧ k = some x ∧ vs = y :: ws ∧ (okHead x && chkE c sc a x) = true ∧ (okHead y && chkE c sc b y) = true ∧ chkD c sc r ks ws = true := by
  unfold chkD at h
  split at h
  · rename_i e; cases e
  · rename_i e; cases e
    obtain ⟨h1, h2⟩ := Bool.and_eq_true_iff.mp h
    obtain ⟨h3, h4⟩ := Bool.and_eq_true_iff.mp h1
    exact ⟨_, _, _, _, _, _, rfl, rfl, rfl, h3, h4, h2⟩
  · cases h
theorem chkB_cons {e : E} {y : Expr} {ys : List Expr} (h : chkB c sc e (y :: ys) = true) : ∃ a r, e = .cons a r ∧ (okHead y = true ∧ testOk a y = true ∧ chkE c sc a y = true) ∧ chkB c sc r ys = true := by
  cases e <;> first | (simp only [chkB, Bool.and_eq_true] at h; exact ⟨_, _, rfl, ⟨h.1.1.1, h.1.1.2, h.1.2⟩, h.2⟩) | (unfold chkB at h; cases h)
theorem chkB_nil {e : E} (h : chkB c sc e [] = true) : e = .nil := by
  cases e <;> first | rfl | (unfold chkB at h; cases h)
theorem chkA_cons {e : E} {y : Expr} {ys : List Expr} (h : chkA c sc e (y :: ys) = true) : ∃ a r, e = .cons a r ∧ (okHead y = true ∧ chkE c sc a y = true) ∧ chkA c sc r ys = true := by
  cases e <;> first | (simp only [chkA, Bool.and_eq_true] at h; exact ⟨_, _, rfl, h.1, h.2⟩) | (unfold chkA at h; cases h)
theorem chkC_nil {e : E} (h : chkC c sc e [] = true) : e = .nil := by
  unfold chkC at h
  split at h <;> first | rfl | (rename_i e2 _; cases e2; done) | (rename_i e2; cases e2; done) | cases h
theorem chkC_cons {e : E} {y : Expr} {ys : List Expr} (h : chkC c sc e (y :: ys) = true) : ∃ a, e = .cons a .nil ∧ ys = [] ∧ okHead y = true ∧ testOk a y = true ∧ chkE c sc a y = true := by
  unfold chkC at h
  split at h
  · rename_i e2; cases e2
  · rename_i e2; cases e2; simp only [Bool.and_eq_true] at h; exact ⟨_, rfl, rfl, h.1.1, h.1.2, h.2⟩
  · cases h
theorem invA_nil {es : E} (h : chkA c sc es [] = true) : es = .nil := chkA_nil h
end
end Lit
namespace Lit
open PySem PySem.Spec PyProof.Rows L2
def flatP : List (V × V) → List V
  | [] => []
  | p :: r => p.1 :: p.2 :: flatP r
theorem flatP_inj : ∀ {ps qs : List (V × V)}, flatP ps = flatP qs → ps = qs
  | [], [], _ => rfl
  | [], _ :: _, e => by simp [flatP] at e
  | _ :: _, [], e => by simp [flatP] at e
  | (a, b) :: ps, (c, d) :: qs, e => by
    simp only [flatP, List.cons.injEq] at e
    rw [flatP_inj e.2.2, e.1, e.2.1]
section
variable {K : PySem.W.Frag} {H : Hp}
theorem kvPairs_ok : ∀ {ds : List D} {kvs : List (D × D)} {vs : List V}, kvPairs ds = some kvs → RelDs K H ds vs → ∃ qs : List (Key × V), vs = flatP (qs.map fun kv => (kV kv.1, kv.2)) ∧ RelK K H kvs qs
  | [], kvs, vs, e, r => by
    simp only [kvPairs] at e
    cases e
    simp only [RelDs] at r
    exact ⟨[], r, rfl⟩
  | .int i :: v :: ds, kvs, vs, e, r => by
    simp only [kvPairs] at e
    cases e1 : kvPairs ds with
    | none => rw [e1] at e; cases e
    | some ks =>
      rw [e1] at e
      cases e
      simp only [RelDs] at r
      obtain ⟨k, r1, rfl, rk, w, r2, rfl, rv, rr⟩ := r
      obtain ⟨qs, e2, r3⟩ := kvPairs_ok e1 rr
      cases relInt rk
      refine ⟨(.inl i, w) :: qs, by rw [e2]; rfl, ⟨.inl i, w, qs, rfl, rfl, rv, r3⟩⟩
  | .str i :: v :: ds, kvs, vs, e, r => by
    simp only [kvPairs] at e
    cases e1 : kvPairs ds with
    | none => rw [e1] at e; cases e
    | some ks =>
      rw [e1] at e
      cases e
      simp only [RelDs] at r
      obtain ⟨k, r1, rfl, rk, w, r2, rfl, rv, rr⟩ := r
      obtain ⟨qs, e2, r3⟩ := kvPairs_ok e1 rr
      cases relStr rk
      refine ⟨(.inr (mkS i), w) :: qs, by rw [e2]; rfl, ⟨.inr (mkS i), w, qs, rfl, rfl, rv, r3⟩⟩
  | [.int _], _, _, e, _ => by simp only [kvPairs] at e; cases e
  | [.str _], _, _, e, _ => by simp only [kvPairs] at e; cases e
  | .non :: _, _, _, e, _ => by simp only [kvPairs] at e; cases e
  | .bl _ :: _, _, _, e, _ => by simp only [kvPairs] at e; cases e
  | .ref _ :: _, _, _, e, _ => by simp only [kvPairs] at e; cases e
  | .tup _ :: _, _, _, e, _ => by simp only [kvPairs] at e; cases e
  | .rol _ :: _, _, _, e, _ => by simp only [kvPairs] at e; cases e
theorem merge_ok : ∀ {kvs : List (D × D)} {qs : List (Key × V)} {acc : List (D × D)} {as : List (Key × V)}, RelK K H kvs qs → RelK K H acc as → RelK K H (mergeD acc kvs) (mergeK as qs)
  | [], qs, acc, as, r, ra => by
    cases (show qs = [] from r)
    exact ra
  | (k, d) :: kvs, qs, acc, as, r, ra => by
    obtain ⟨kk, v, qs', rfl, ek, rv, rr⟩ := (show ∃ kk v r, qs = (kk, v) :: r ∧ keyD k = some kk ∧ RelD K H d v ∧ RelK K H kvs r from r)
    show RelK K H (mergeD (setKV k d acc) kvs) (mergeK (putK as kk v) qs')
    exact merge_ok rr (relK_gen.mpr (setKV_gen kd2 ek rv (relK_gen.mp ra)))
theorem relK_len : ∀ {kvs : List (D × D)} {qs : List (Key × V)}, RelK K H kvs qs → qs.length = kvs.length := fun r => (relK_gen.mp r).len
end
section
variable {X : Cx} {W : WX}
def rDic (ra : RA) : RE := fun ρ h xq Q => ra ρ h xq fun ds h1 => match kvPairs ds with
  | some kvs => kvs.length ≤ 15 ∧ alloc (.dct (mergeD [] kvs)) h1 Q
  | none => False
theorem s_dicN {pos : Pos} : PE X (.Dict [] [] pos) (liftE X.K W (rDic fun _ h _ Q => Q [] h)) := by
  refine pe_dnewK.lift fun σ H Q ⟨ρ, h, xq, Qd, rs, rh, q, out, ox⟩ p hp => ?_
  have hn := rh.free hp
  have al := q.2 p (updP h p (.dct [])) hn updP_same (ext_upd hn)
  have nt : NoT H p := .free hp
  exact out _ _ (.ref p) _ al (by simp only [RelD]) (rh.put nt (.inl ⟨[], upd_same, rfl⟩)) (.put (.inr hp))
theorem s_dic {pos : Pos} {ks : List (Option Expr)} {vs : List Expr} {trs : List (TE × TE)} {ra : RA} (h : PPs X pos ks vs trs) (hall : ks.all (·.isSome) = true) (hl : ks.length = vs.length) (h0 : ks ≠ []) (h15 : ks.length ≤ 15)
    (hp : ∀ σ H Q, liftA X.K W ra σ H (fun xs H' => ∃ ps, xs = flatP ps ∧ Q ps H') → tPairs trs σ H Q) : PE X (.Dict ks vs pos) (liftE X.K W (rDic ra)) := by
  refine (pe_disp h hall hl h0 h15).lift fun σ H Q ⟨ρ, h, xq, Qd, rs, rh, q, out, ox⟩ p hp' => hp _ _ _ ?_
  have hn := rh.free hp'
  have fr : Frm H h (upd H p (.dK [])) h := .laid hp'
  have rh1 : RelH X.K (upd H p (.dK [])) h := rh.laid hp' hn
  refine liftA.bind (rs.keep (fr.keeps rh)) rh1 q (ox.step fr) fun ds h1 xs H1 q1 r1 rh2 f1 _ _ _ => ?_
  cases e1 : kvPairs ds with
  | none => rw [e1] at q1; exact q1.elim
  | some kvs =>
    rw [e1] at q1
    obtain ⟨qs, ex, rk⟩ := kvPairs_ok e1 r1
    obtain ⟨hD, hDn⟩ := f1 p _ upd_same hn
    have nt : NoT H1 p := .of hD (fun _ c => nomatch c) (fun _ _ c => nomatch c) fun _ c => nomatch c
    refine ⟨_, ex, hD, qs, rfl, by rw [relK_len rk]; exact q1.1, ?_⟩
    have al := q1.2 p (updP h1 p (.dct (mergeD [] kvs))) hDn updP_same (ext_upd hDn)
    have rm : RelK X.K H1 (mergeD [] kvs) (mergeK [] qs) := merge_ok rk rfl
    refine out _ _ (.ref p) _ al (by simp only [RelD]) (rh2.put nt (.inl ⟨_, upd_same, rm.keep (Stay.upd.keeps nt)⟩)) ?_
    intro b w e nn
    have hb : b ≠ p := fun z => by rw [z, hp'] at e; cases e
    rw [upd_ne hb, updP_ne hb]
    exact f1 b w (by rw [upd_ne hb]; exact e) nn
theorem pairs_step {ra rb : RE} {rr : RA} {trs : List (TE × TE)} (hp : ∀ σ H Q, liftA X.K W rr σ H (fun xs H' => ∃ ps, xs = flatP ps ∧ Q ps H') → tPairs trs σ H Q) :
    ∀ σ H Q, liftA X.K W (fun ρ h xq Q => ra ρ h xq fun x h1 => rb ρ h1 xq fun y h2 => rr ρ h2 xq fun ds h3 => Q (x :: y :: ds) h3) σ H (fun xs H' => ∃ ps, xs = flatP ps ∧ Q ps H') → tPairs ((liftE X.K W ra, liftE X.K W rb) :: trs) σ H Q := by
  intro σ H Q ⟨ρ, h, xq, Qd, rs, rh, q, out, ox⟩
  refine liftE.bind rs rh q ox fun x h1 v1 H1 q1 r1 rh1 f1 k1 rs1 ox1 => ?_
  refine liftE.bind rs1 rh1 q1 ox1 fun y h2 v2 H2 q2 r2 rh2 f2 k2 rs2 ox2 => ?_
  refine hp _ _ _ (liftA.bind rs2 rh2 q2 ox2 fun ds h3 vs H3 q3 r3 rh3 f3 k3 _ _ => ?_)
  obtain ⟨ps, e, z⟩ := out _ h3 (v1 :: v2 :: vs) H3 q3 (.cons ((r1.keep k2).keep k3) (.cons (r2.keep k3) r3)) rh3 ((f1.trans f2).trans f3)
  cases ps with
  | nil => simp [flatP] at e
  | cons p ps =>
    simp only [flatP, List.cons.injEq] at e
    obtain ⟨e1, e2, e3⟩ := e
    refine ⟨ps, e3, ?_⟩
    rw [e1, e2]
    exact z
theorem pairs_nil : ∀ σ H Q, liftA X.K W (fun _ h _ Q => Q [] h) σ H (fun xs H' => ∃ ps, xs = flatP ps ∧ Q ps H') → tPairs [] σ H Q := by
  intro σ H Q ⟨ρ, h, xq, Qd, rs, rh, q, out, ox⟩
  obtain ⟨ps, e, z⟩ := out [] h [] H q .nil rh Frm.refl
  cases ps with
  | nil => exact z
  | cons p ps => simp [flatP] at e
end
end Lit
namespace Lit
open PySem PySem.Spec PyProof.Rows L2
theorem deq {α : Prop} [Decidable α] (h : decide α = true) : α := of_decide_eq_true h
theorem gint_ok {X : Cx} {W : WX} {k : Nat} {G : Sig} (c : Ctx X W k G) {y : Str} {i : Int} {pos : Pos} (h : (glB X.env.scope y && noDbg y && decide ((y, i) ∈ (G.ck X.N).gis)) = true) : PE X (.Name y pos) (liftE X.K W fun _ h _ Q => Q (.int i) h) := by
  obtain ⟨h1, h2⟩ := an h
  obtain ⟨h3, h4⟩ := an h1
  obtain ⟨t, e⟩ := c.gis y i (deq h2)
  exact s_val (pe_glob (v := .int i) (gl_ok h3) e ⟨t, rfl⟩ (noDbg_ok h4).1) fun H => by simp only [RelD]
theorem gstr_ok {X : Cx} {W : WX} {k : Nat} {G : Sig} (c : Ctx X W k G) {y : Str} {i : List Nat} {pos : Pos} (h : (glB X.env.scope y && noDbg y && decide ((y, i) ∈ (G.ck X.N).gss)) = true) : PE X (.Name y pos) (liftE X.K W fun _ h _ Q => Q (.str i) h) := by
  obtain ⟨h1, h2⟩ := an h
  obtain ⟨h3, h4⟩ := an h1
  obtain ⟨t, e⟩ := c.gss y i (deq h2)
  exact s_val (pe_glob (v := .str (mkS i)) (gl_ok h3) e ⟨t, rfl⟩ (noDbg_ok h4).1) fun H => by simp only [RelD]
theorem plain_ife {t a b : E} {c : Ck} {sc : Scope} {x : Expr} (h : testOk (.ife t a b) x = true) (h2 : chkE c sc (.ife t a b) x = true) : False := by
  obtain ⟨u, y, z, pos, rfl, _⟩ := inv_ife h2
  cases h
section
variable {k : Nat} {G : Sig}
theorem invI_R1 {c : Ck} {sc : Scope} {tg x : Expr} {e : E} (h : chkI c sc (.itR1 e) tg x = true) : ∃ n p y pos, x = .Call (.Name n p) [y] [] pos ∧ (decide (n = "range") && bltOk c sc n && (okHead y && chkE c sc e y)) = true := by
  unfold chkI at h
  split at h <;> first | (rename_i e; cases e; done) | (rename_i e; cases e; exact ⟨_, _, _, _, rfl, h⟩) | cases h
theorem invI_R2 {c : Ck} {sc : Scope} {tg x : Expr} {a b : E} (h : chkI c sc (.itR2 a b) tg x = true) : ∃ n p y z pos, x = .Call (.Name n p) [y, z] [] pos ∧ (decide (n = "range") && bltOk c sc n && (okHead y && chkE c sc a y) && (okHead z && chkE c sc b z)) = true := by
  unfold chkI at h
  split at h <;> first | (rename_i e; cases e; done) | (rename_i e; cases e; exact ⟨_, _, _, _, _, rfl, h⟩) | cases h
theorem invI_EL {c : Ck} {sc : Scope} {tg x : Expr} {e : E} (h : chkI c sc (.itEL e) tg x = true) : ∃ es kk tpos n p y pos, tg = .Tuple es kk tpos ∧ x = .Call (.Name n p) [y] [] pos ∧ (decide (n = "enumerate") && bltOk c sc n && (okHead y && chkE c sc e y)) = true := by
  unfold chkI at h
  split at h <;> first | (rename_i e; cases e; done) | (rename_i e; cases e; exact ⟨_, _, _, _, _, _, _, rfl, rfl, h⟩) | cases h
theorem invI_Z {c : Ck} {sc : Scope} {tg x : Expr} {a b : E} (h : chkI c sc (.itZ a b) tg x = true) : ∃ es kk tpos n p y z pos, tg = .Tuple es kk tpos ∧ x = .Call (.Name n p) [y, z] [] pos ∧ (decide (n = "zip") && bltOk c sc n && (okHead y && chkE c sc a y) && (okHead z && chkE c sc b z)) = true := by
  unfold chkI at h
  split at h <;> first | (rename_i e; cases e; done) | (rename_i e; cases e; exact ⟨_, _, _, _, _, _, _, _, rfl, rfl, h⟩) | cases h
theorem s_ptsnil {X : Cx} {W : WX} : PTs X [] (liftT X.K W fun _ h _ Q => Q true h) := ⟨fun pins s σ H Q I ⟨ρ, h, xq, Qd, rs, rh, q, out, ox⟩ => pts_nil.run pins s σ H Q I (out true h H q rh Frm.refl)⟩
mutual
theorem snd_E : ∀ (e : E) {X : Cx} {W : WX} {x : Expr}, Ctx X W k G → chkE (G.ck X.N) X.env.scope e x = true → PE X x (liftE X.K W (rdE G.sps e))
  | .var i, X, W, x, c, h => by
    rw [rdE]
    obtain ⟨y, pos, hx, g⟩ := inv_var h
    subst hx
    have h := g
    obtain ⟨h1, h2⟩ := an h
    obtain ⟨h3, h4⟩ := an h1
    obtain ⟨d1, d2, _⟩ := noDbg_ok h2
    exact s_var (deq h3) (vis_ok h4) d1 d2
  | .int i, X, W, x, c, h => by
    rw [rdE]
    obtain ⟨j, n, pos, hx, g⟩ := inv_int h
    subst hx
    have h := g
    cases deq h
    exact s_val pe_int fun H => by simp only [RelD]
  | .bl i, X, W, x, c, h => by
    rw [rdE]
    obtain ⟨j, n, pos, hx, g⟩ := inv_bl h
    subst hx
    have h := g
    cases deq h
    exact s_val pe_bl fun H => by simp only [RelD]
  | .str i, X, W, x, c, h => by
    rw [rdE]
    obtain ⟨j, n, pos, hx, g⟩ := inv_str h
    subst hx
    have h := g
    cases deq h
    exact s_val pe_str fun H => by simp only [RelD]
  | .non, X, W, x, c, h => by
    rw [rdE]
    obtain ⟨n, pos, hx, g⟩ := inv_non h
    subst hx
    have h := g
    exact s_val pe_non fun H => by simp only [RelD]
  | .gint y i, X, W, x, c, h => by
    rw [rdE]
    obtain ⟨z, pos, hx, g⟩ := inv_gint h
    subst hx
    have h := g
    have h' := h

    simp only [Bool.and_eq_true_iff] at h'
    cases deq h'.1.1.1
    exact gint_ok c (by simp only [Bool.and_eq_true_iff]; exact ⟨⟨h'.1.1.2, h'.1.2⟩, h'.2⟩)
  | .gstr y i, X, W, x, c, h => by
    rw [rdE]
    obtain ⟨z, pos, hx, g⟩ := inv_gstr h
    subst hx
    have h := g
    have h' := h
    simp only [Bool.and_eq_true_iff] at h'
    cases deq h'.1.1.1
    exact gstr_ok c (by simp only [Bool.and_eq_true_iff]; exact ⟨⟨h'.1.1.2, h'.1.2⟩, h'.2⟩)
  | .frz a, X, W, x, c, h => by
    rw [rdE]
    have h : chkE (G.ck X.N) X.env.scope a x = true := by unfold chkE at h; exact h
    exact s_frz (snd_E a c h)
  | .fgt a, X, W, x, c, h => by
    rw [rdE]
    have h : chkE (G.ck X.N) X.env.scope a x = true := by unfold chkE at h; exact h
    exact s_fgt (snd_E a c h)
  | .isx a t ks, X, W, x, c, h => by
    rw [rdE]
    obtain ⟨n, p, y, tn, p2, pos, hx, g⟩ := inv_isx h
    subst hx
    simp only [Bool.and_eq_true_iff] at g
    exact s_isx c g (fun z => snd_E a c z)
  | .xfld a f ks, X, W, x, c, h => by
    rw [rdE]
    obtain ⟨y, n, pos, hx, g⟩ := inv_xfld h
    subst hx
    simp only [Bool.and_eq_true_iff] at g
    exact s_xfld c g (fun z => snd_E a c z)
  | .op fz o a b, X, W, x, c, h => by
    rw [rdE]
    obtain ⟨l, o', r, pos, hx, g⟩ := inv_op h
    subst hx
    have h := g
    simp only [Bool.and_eq_true_iff] at h
    cases op_ok h.1.1
    exact s_op (snd_E a c h.1.2.2) (snd_E b c h.2.2)
  | .neg a, X, W, x, c, h => by
    rw [rdE]
    obtain ⟨v, pos, hx, g⟩ := inv_neg h
    subst hx
    have h := g
    exact s_neg (snd_E a c (an h).2)
  | .cmp o a b, X, W, x, c, h => by
    rw [rdE]
    obtain ⟨l, o', r, pos, hx, g⟩ := inv_cmp h
    subst hx
    have h := g
    simp only [Bool.and_eq_true_iff] at h
    cases co_ok h.1.1
    exact s_cmp c (snd_E a c h.1.2.2) (snd_E b c h.2.2) h.2.1
  | .chain o o2 a b d, X, W, x, c, h => by
    rw [rdE]
    obtain ⟨l, o', o2', m, r, pos, hx, g⟩ := inv_chain h
    subst hx
    have h := g
    simp only [Bool.and_eq_true_iff] at h
    cases co_ok h.1.1.1.1
    cases co_ok h.1.1.1.2
    exact s_chain c (snd_E a c h.1.1.2.2) (snd_E b c h.1.2.2) (snd_E d c h.2.2) h.2.1
  | .land es, X, W, x, c, h => by
    rw [rdE]
    obtain ⟨vs, pos, hx, g⟩ := inv_land h
    subst hx
    have h := g
    exact snd_And es c (an h).1 (fun e => by rw [e] at h; exact absurd (deq (an h).2) (by decide))
  | .lor es, X, W, x, c, h => by
    rw [rdE]
    obtain ⟨vs, pos, hx, g⟩ := inv_lor h
    subst hx
    have h := g
    exact snd_Or es c (an h).1 (fun e => by rw [e] at h; exact absurd (deq (an h).2) (by decide))
  | .lnot a, X, W, x, c, h => by
    rw [rdE]
    obtain ⟨v, pos, hx, g⟩ := inv_lnot h
    subst hx
    have h := g
    exact s_not (snd_E a c (an h).2)
  | .ife t a b, X, W, x, c, h => by
    rw [rdE]
    obtain ⟨u, y, z, pos, hx, g⟩ := inv_ife h
    subst hx
    have h := g
    simp only [Bool.and_eq_true_iff] at h
    exact s_ife (snd_T t c h.1.1.2 h.1.1.1.2) (snd_E a c h.1.2.2) (snd_E b c h.2.2)
  | .tup es, X, W, x, c, h => by
    rw [rdE]
    obtain ⟨vs, n, pos, hx, g⟩ := inv_tup h
    subst hx
    have h := g
    exact s_tup (snd_A es c h)
  | .lst fz es, X, W, x, c, h => by
    rw [rdE]
    obtain ⟨vs, pos, hx, g⟩ := inv_lst h
    subst hx
    have h := g
    exact s_lst (snd_A es c h)
  | .dic es, X, W, x, c, h => by
    rw [rdE]
    obtain ⟨ks, vs, pos, hx, g⟩ := inv_dic h
    subst hx
    obtain ⟨g1, g2⟩ := an g
    obtain ⟨trs, p1, p2, p3, p4⟩ := snd_D es c (W := W) (pos := pos) g1
    cases ks with
    | nil =>
      obtain ⟨e1, e2⟩ := chkD_nil g1
      subst e1 e2
      rw [rdA]
      exact s_dicN
    | cons k ks => exact s_dic p1 p2 p3 (by simp) (deq g2) p4
  | .ix a i, X, W, x, c, h => by
    rw [rdE]
    obtain ⟨o, s, pos, hx, g⟩ := inv_ix h
    subst hx
    have h := g
    simp only [Bool.and_eq_true_iff] at h
    exact s_ix c (snd_E a c h.1.2) (snd_E i c h.2.2) h.2.1
  | .sl fz a lo hi, X, W, x, c, h => by
    rw [rdE]
    obtain ⟨o, l, u, p, pos, hx, g⟩ := inv_sl h
    subst hx
    have h := g
    obtain ⟨h1, h2⟩ := an h
    obtain ⟨h3, h4⟩ := an h1
    exact s_sl (snd_E a c (an h3).2) (snd_O lo c h4) (snd_O hi c h2)
  | .rev fz a, X, W, x, c, h => by
    rw [rdE]
    obtain ⟨o, n, p1, p2, p3, pos, hx, g⟩ := inv_rev h
    subst hx
    have h := g
    exact s_rev (snd_E a c (an h).2)
  | .b1 f a, X, W, x, c, h => by
    rw [rdE]
    obtain ⟨n, p, y, pos, hx, g⟩ := inv_b1 h
    subst hx
    have h := g
    simp only [Bool.and_eq_true_iff] at h
    cases deq h.1.1
    exact s_b1any c f h.1.2 (snd_E a c h.2.2) h.2.1
  | .b2 f a b, X, W, x, c, h => by
    rw [rdE]
    obtain ⟨n, p, y, z, pos, hx, g⟩ := inv_b2 h
    subst hx
    have h := g
    simp only [Bool.and_eq_true_iff] at h
    cases deq h.1.1.1
    exact s_b2any c f h.1.1.2 (snd_E a c h.1.2.2) (snd_E b c h.2.2) h.1.2.1 h.2.1
  | .isi a t, X, W, x, c, h => by
    rw [rdE]
    obtain ⟨n, p, y, tn, p2, pos, hx, g⟩ := inv_isi h
    subst hx
    have h := g
    simp only [Bool.and_eq_true_iff] at h
    cases deq h.1.1.1.1.1
    cases deq h.1.1.2
    exact s_isi c t h.2 h.1.1.1.1.2 h.1.2 (snd_E a c h.1.1.1.2.2) h.1.1.1.2.1
  | .mth m o es, X, W, x, c, h => by
    rw [rdE]
    obtain ⟨r, n, ap, args, cp, hx, g⟩ := inv_mth h
    subst hx
    have h := g
    simp only [Bool.and_eq_true_iff] at h
    cases deq h.1.1.1.1.1
    have hz := h.1.1.1.1.2
    have hb : call0 r = false := bang hz.1
    have hm : m ≠ .lindex := deq hz.2
    have pr := snd_E o c h.1.1.2.2
    cases args with
    | nil =>
      cases chkA_nil h.1.2
      simp only [rdA]
      exact s_mth0 c m hm pr hb h.1.1.1.2
    | cons e es' => exact s_mth c m hm pr hb h.1.1.1.2 h.1.2 (deq h.2) (snd_A es c h.1.2)
  | .call i es, X, W, x, c, h => by
    rw [rdE]
    obtain ⟨f, p, args, pos, hx, g⟩ := inv_call h
    subst hx
    have h := g
    simp only [Bool.and_eq_true_iff] at h
    cases args with
    | nil => exact absurd h.1.2 (by decide)
    | cons e es' =>
      obtain ⟨a, r, rfl⟩ := chkA_ncons h.2
      exact pe_def c (deq h.1.1.1.1) (gl_ok h.1.1.1.2) (snd_A (.cons a r) c h.2) (noDbg_ok h.1.1.2).1 (star_ok (chkA_head h.2).1 _ _) (chkA_star (chkA_head h.2).2.2 _ _)
  | .comp fz it tg vs cond elt, X, W, x, c, h => by
    rw [rdE]
    obtain ⟨e, t, iter, ifs, scope, pos, hx, g⟩ := inv_comp h
    subst hx
    have h := g
    simp only [Bool.and_eq_true_iff] at h
    exact s_comp c (snd_I it c h.1.1.1.1.1.1) h.1.1.1.1.1.2 h.1.1.1.1.2 h.1.1.1.2 h.1.1.2 (fun s H C cl fp => snd_C cond (c.blk s H scope (compEnvC scope cl C X.env) fp) h.1.2) (fun s H C cl fp => snd_E elt (c.blk s H scope (compEnvC scope cl C X.env) fp) h.2.2)
  | .meth i cn m o es, X, W, x, c, h => by
    rw [rdE]
    obtain ⟨r, n, ap, args, cp, hx, g⟩ := inv_meth h
    subst hx
    simp only [Bool.and_eq_true_iff] at g
    obtain ⟨⟨⟨⟨⟨⟨⟨⟨g1, g2⟩, g3⟩, g4⟩, g5⟩, g6, g7⟩, g8⟩, g9⟩, g10⟩ := g
    cases deq g1
    exact s_meth c (deq g2) g3 (snd_E o c g7) (bang g4) g5 g8 (deq g9) (snd_A es c g8) (deq g10) fun e ρ h xq P p => by subst e; cases chkA_nil g8; simpa [rdA] using p
  | .make i cn es, X, W, x, c, h => by
    rw [rdE]
    obtain ⟨f, p, args, pos, hx, g⟩ := inv_make h
    subst hx
    simp only [Bool.and_eq_true_iff] at g
    obtain ⟨⟨⟨⟨⟨⟨g1, g2⟩, g3⟩, g4⟩, g5⟩, g6⟩, g7⟩ := g
    cases deq g1
    cases args with
    | nil => cases g6
    | cons y ys =>
      obtain ⟨b, r, he, hh, ht⟩ := chkA_cons g7
      have pa := snd_A es c g7
      exact s_make c (deq g2) g3 (gl_ok g4) (noDbg_ok g5).1 pa (star_ok hh.1 _ _) (chkA_star ht _ _)
  | .fld o f cs, X, W, x, c, h => by
    rw [rdE]
    obtain ⟨y, n, pos, hx, g⟩ := inv_fld h
    subst hx
    simp only [Bool.and_eq_true_iff] at g
    obtain ⟨⟨⟨⟨g1, g2⟩, g3, g4⟩, g5⟩, g6⟩ := g
    cases deq g1
    exact s_fld c (snd_E o c g4) (bang g2) g5 g6
  | .gtup y ss, X, W, x, c, h => by
    rw [rdE]
    obtain ⟨z, pos, hx, g⟩ := inv_gtup h
    subst hx
    simp only [Bool.and_eq_true_iff] at g
    cases deq g.1.1.1
    exact s_gtup c (by simp only [Bool.and_eq_true_iff]; exact ⟨⟨g.1.1.2, g.1.2⟩, g.2⟩)
  | .gdin neg y kvs a, X, W, x, c, h => by
    rw [rdE]
    obtain ⟨l, o', n, p, pos, hx, g⟩ := inv_gdin h
    subst hx
    simp only [Bool.and_eq_true_iff] at g
    cases deq g.2.1.1.1
    exact s_gdin c g.1.1 (snd_E a c g.1.2.2) (by simp only [Bool.and_eq_true_iff]; exact ⟨⟨g.2.1.1.2, g.2.1.2⟩, g.2.2⟩)
  | .gdix y kvs a, X, W, x, c, h => by
    rw [rdE]
    obtain ⟨n, p, s, pos, hx, g⟩ := inv_gdix h
    subst hx
    simp only [Bool.and_eq_true_iff] at g
    cases deq g.1.1.1.1
    exact s_gdix c g.2.1 (snd_E a c g.2.2) (by simp only [Bool.and_eq_true_iff]; exact ⟨⟨g.1.1.1.2, g.1.1.2⟩, g.1.2⟩)
  | .mkx0 y, X, W, x, c, h => by
    rw [rdE]
    obtain ⟨n, p, m, j, p2, pos, hx, g⟩ := inv_mkx0 h
    subst hx
    simp only [Bool.and_eq_true_iff] at g
    cases deq g.1.1.1.1
    exact s_mkx0 c (c.exs _ (by simpa [Sig.ck] using g.1.2)) g.2 (gl_ok g.1.1.1.2) (noDbg_ok g.1.1.2).1
  | .mkx y fs es, X, W, x, c, h => by
    rw [rdE]
    obtain ⟨n, p, args, pos, hx, g⟩ := inv_mkx h
    subst hx
    simp only [Bool.and_eq_true_iff] at g
    obtain ⟨⟨⟨⟨⟨⟨⟨h1, h2⟩, h3⟩, h4⟩, h5⟩, h6⟩, h7⟩, h8⟩ := g
    cases deq h1
    have hx : y ∈ G.exs := by simpa [Sig.ck] using h4
    obtain ⟨hk, O⟩ := c.own _ hx _ (deq h5)
    cases args with
    | nil => cases h7
    | cons b l =>
      obtain ⟨a, r, he, hh, ht⟩ := chkA_cons h8
      exact s_mkx c (c.exs _ hx) hk O (deq h6) (gl_ok h2) (noDbg_ok h3).1 (snd_A es c h8) (star_ok hh.1 _ _) (chkA_star ht _ _)
  | .itZ _ _, X, W, x, c, h => by unfold chkE at h; first | cases h | (split at h <;> first | (rename_i e; cases e; done) | cases h)
  | .itL _, X, W, x, c, h => by unfold chkE at h; first | cases h | (split at h <;> first | (rename_i e; cases e; done) | cases h)
  | .itT _, X, W, x, c, h => by unfold chkE at h; first | cases h | (split at h <;> first | (rename_i e; cases e; done) | cases h)
  | .itS _, X, W, x, c, h => by unfold chkE at h; first | cases h | (split at h <;> first | (rename_i e; cases e; done) | cases h)
  | .itR1 _, X, W, x, c, h => by unfold chkE at h; first | cases h | (split at h <;> first | (rename_i e; cases e; done) | cases h)
  | .itR2 _ _, X, W, x, c, h => by unfold chkE at h; first | cases h | (split at h <;> first | (rename_i e; cases e; done) | cases h)
  | .itEL _, X, W, x, c, h => by unfold chkE at h; first | cases h | (split at h <;> first | (rename_i e; cases e; done) | cases h)
  | .itET _, X, W, x, c, h => by unfold chkE at h; first | cases h | (split at h <;> first | (rename_i e; cases e; done) | cases h)
  | .itES _, X, W, x, c, h => by unfold chkE at h; first | cases h | (split at h <;> first | (rename_i e; cases e; done) | cases h)
  | .nil, X, W, x, c, h => by unfold chkE at h; first | cases h | (split at h <;> first | (rename_i e; cases e; done) | cases h)
  | .cons _ _, X, W, x, c, h => by unfold chkE at h; first | cases h | (split at h <;> first | (rename_i e; cases e; done) | cases h)
termination_by e => (sizeOf e, 1)
theorem snd_T : ∀ (e : E) {X : Cx} {W : WX} {x : Expr}, Ctx X W k G → chkE (G.ck X.N) X.env.scope e x = true → testOk e x = true → PT X x (liftT X.K W (rdT_ G.sps e))
  | .land es, X, W, x, c, h, t => by
    rw [rdT_]
    obtain ⟨vs, pos, hx, g⟩ := inv_land h
    subst hx
    have h := g
    exact (snd_AndT es c (an h).1 (fun e => by rw [e] at h; exact absurd (deq (an h).2) (by decide))).pt
  | .lor es, X, W, x, c, h, t => by
    rw [rdT_]
    obtain ⟨vs, pos, hx, g⟩ := inv_lor h
    subst hx
    have h := g
    exact (snd_OrT es c (an h).1 (fun e => by rw [e] at h; exact absurd (deq (an h).2) (by decide))).pt
  | .lnot a, X, W, x, c, h, t => by
    rw [rdT_]
    obtain ⟨v, pos, hx, g⟩ := inv_lnot h
    subst hx
    have h := g
    exact s_notT (snd_T a c (an h).2 (an (an h).1).2)
  | .cmp o a b, X, W, x, c, h, t => by
    rw [rdT_]
    obtain ⟨l, o', r, pos, hx, g⟩ := inv_cmp h
    subst hx
    have h := g
    simp only [Bool.and_eq_true_iff] at h
    cases co_ok h.1.1
    exact s_cmpT c (snd_E a c h.1.2.2) (snd_E b c h.2.2) h.2.1
  | .chain o o2 a b d, X, W, x, c, h, t => by
    rw [rdT_]
    obtain ⟨l, o', o2', m, r, pos, hx, g⟩ := inv_chain h
    subst hx
    have h := g
    simp only [Bool.and_eq_true_iff] at h
    cases co_ok h.1.1.1.1
    cases co_ok h.1.1.1.2
    exact s_chainT c (snd_E a c h.1.1.2.2) (snd_E b c h.1.2.2) (snd_E d c h.2.2) h.2.1
  | .gdin neg y kvs a, X, W, x, c, h, t => by
    rw [rdT_]
    obtain ⟨l, o', n, p, pos, hx, g⟩ := inv_gdin h
    subst hx
    simp only [Bool.and_eq_true_iff] at g
    cases deq g.2.1.1.1
    exact s_gdinT c g.1.1 (snd_E a c g.1.2.2) (by simp only [Bool.and_eq_true_iff]; exact ⟨⟨g.2.1.1.2, g.2.1.2⟩, g.2.2⟩)
  | .gtup y ss, X, W, x, c, h, t => by
    simp only [rdT_]
    exact s_truth (snd_E (.gtup y ss) c h) t
  | .gdix y kvs a, X, W, x, c, h, t => by
    simp only [rdT_]
    exact s_truth (snd_E (.gdix y kvs a) c h) t
  | .mkx0 y, X, W, x, c, h, t => by
    simp only [rdT_]
    exact s_truth (snd_E (.mkx0 y) c h) t
  | .mkx y fs es, X, W, x, c, h, t => by
    simp only [rdT_]
    exact s_truth (snd_E (.mkx y fs es) c h) t
  | .ife t' a b, X, W, x, c, h, t => (plain_ife t h).elim
  | .var i, X, W, x, c, h, t => by
    simp only [rdT_]
    exact s_truth (snd_E (.var i) c h) t
  | .int i, X, W, x, c, h, t => by
    simp only [rdT_]
    exact s_truth (snd_E (.int i) c h) t
  | .bl i, X, W, x, c, h, t => by
    simp only [rdT_]
    exact s_truth (snd_E (.bl i) c h) t
  | .str i, X, W, x, c, h, t => by
    simp only [rdT_]
    exact s_truth (snd_E (.str i) c h) t
  | .non, X, W, x, c, h, t => by
    simp only [rdT_]
    exact s_truth (snd_E .non c h) t
  | .gint y i, X, W, x, c, h, t => by
    simp only [rdT_]
    exact s_truth (snd_E (.gint y i) c h) t
  | .gstr y i, X, W, x, c, h, t => by
    simp only [rdT_]
    exact s_truth (snd_E (.gstr y i) c h) t
  | .frz a, X, W, x, c, h, t => by
    simp only [rdT_]
    exact s_truth (snd_E (.frz a) c h) t
  | .fgt a, X, W, x, c, h, t => by
    simp only [rdT_]
    exact s_truth (snd_E (.fgt a) c h) t
  | .isx a b ks, X, W, x, c, h, t => by
    simp only [rdT_]
    exact s_truth (snd_E (.isx a b ks) c h) t
  | .xfld a f ks, X, W, x, c, h, t => by
    simp only [rdT_]
    exact s_truth (snd_E (.xfld a f ks) c h) t
  | .op fz o a b, X, W, x, c, h, t => by
    simp only [rdT_]
    exact s_truth (snd_E (.op fz o a b) c h) t
  | .neg a, X, W, x, c, h, t => by
    simp only [rdT_]
    exact s_truth (snd_E (.neg a) c h) t
  | .tup a, X, W, x, c, h, t => by
    simp only [rdT_]
    exact s_truth (snd_E (.tup a) c h) t
  | .lst fz a, X, W, x, c, h, t => by
    simp only [rdT_]
    exact s_truth (snd_E (.lst fz a) c h) t
  | .dic a, X, W, x, c, h, t => by
    simp only [rdT_]
    exact s_truth (snd_E (.dic a) c h) t
  | .ix a b, X, W, x, c, h, t => by
    simp only [rdT_]
    exact s_truth (snd_E (.ix a b) c h) t
  | .sl fz a b d, X, W, x, c, h, t => by
    simp only [rdT_]
    exact s_truth (snd_E (.sl fz a b d) c h) t
  | .rev fz a, X, W, x, c, h, t => by
    simp only [rdT_]
    exact s_truth (snd_E (.rev fz a) c h) t
  | .b1 f a, X, W, x, c, h, t => by
    simp only [rdT_]
    exact s_truth (snd_E (.b1 f a) c h) t
  | .b2 f a b, X, W, x, c, h, t => by
    simp only [rdT_]
    exact s_truth (snd_E (.b2 f a b) c h) t
  | .isi a b, X, W, x, c, h, t => by
    simp only [rdT_]
    exact s_truth (snd_E (.isi a b) c h) t
  | .mth f a b, X, W, x, c, h, t => by
    simp only [rdT_]
    exact s_truth (snd_E (.mth f a b) c h) t
  | .call a b, X, W, x, c, h, t => by
    simp only [rdT_]
    exact s_truth (snd_E (.call a b) c h) t
  | .meth f a b d e, X, W, x, c, h, t => by
    simp only [rdT_]
    exact s_truth (snd_E (.meth f a b d e) c h) t
  | .make a b d, X, W, x, c, h, t => by
    simp only [rdT_]
    exact s_truth (snd_E (.make a b d) c h) t
  | .fld f a b, X, W, x, c, h, t => by
    simp only [rdT_]
    exact s_truth (snd_E (.fld f a b) c h) t
  | .comp fz f a b d e, X, W, x, c, h, t => by
    simp only [rdT_]
    exact s_truth (snd_E (.comp fz f a b d e) c h) t
  | .itL a, X, W, x, c, h, t => by
    simp only [rdT_]
    exact s_truth (snd_E (.itL a) c h) t
  | .itT a, X, W, x, c, h, t => by
    simp only [rdT_]
    exact s_truth (snd_E (.itT a) c h) t
  | .itS a, X, W, x, c, h, t => by
    simp only [rdT_]
    exact s_truth (snd_E (.itS a) c h) t
  | .itR1 a, X, W, x, c, h, t => by
    simp only [rdT_]
    exact s_truth (snd_E (.itR1 a) c h) t
  | .itR2 a b, X, W, x, c, h, t => by
    simp only [rdT_]
    exact s_truth (snd_E (.itR2 a b) c h) t
  | .itEL a, X, W, x, c, h, t => by
    simp only [rdT_]
    exact s_truth (snd_E (.itEL a) c h) t
  | .itZ a b, X, W, x, c, h, t => by
    simp only [rdT_]
    exact s_truth (snd_E (.itZ a b) c h) t
  | .itET a, X, W, x, c, h, t => by
    simp only [rdT_]
    exact s_truth (snd_E (.itET a) c h) t
  | .itES a, X, W, x, c, h, t => by
    simp only [rdT_]
    exact s_truth (snd_E (.itES a) c h) t
  | .nil, X, W, x, c, h, t => by
    simp only [rdT_]
    exact s_truth (snd_E .nil c h) t
  | .cons a b, X, W, x, c, h, t => by
    simp only [rdT_]
    exact s_truth (snd_E (.cons a b) c h) t
termination_by e => (sizeOf e, 2)
theorem snd_And (e : E) {X : Cx} {W : WX} {xs : List Expr} {pos : Pos} (c : Ctx X W k G) (h : chkB (G.ck X.N) X.env.scope e xs = true) (n : xs ≠ []) : PE X (.BoolOp .And xs pos) (liftE X.K W (rdAnd G.sps e)) := by
  cases xs with
  | nil => exact absurd rfl n
  | cons x xs =>
    obtain ⟨a, r, he, h1, h2⟩ := chkB_cons h
    have l1 : sizeOf a < sizeOf e := by rw [he]; simp only [E.cons.sizeOf_spec]; omega
    have l2 : sizeOf r < sizeOf e := by rw [he]; simp only [E.cons.sizeOf_spec]; omega
    have pa := snd_E a c (W := W) h1.2.2
    cases xs with
    | nil =>
      have e2 := chkB_nil h2
      subst e2 he
      rw [rdAnd]
      exact pe_one pa
    | cons y ys =>
      have pr := snd_And r c (W := W) (pos := pos) h2 (by simp)
      obtain ⟨b, r', hr, _⟩ := chkB_cons h2
      subst hr he
      simp only [rdAnd] at pr ⊢
      exact s_andV pa pr
termination_by (sizeOf e, 1)
theorem snd_Or (e : E) {X : Cx} {W : WX} {xs : List Expr} {pos : Pos} (c : Ctx X W k G) (h : chkB (G.ck X.N) X.env.scope e xs = true) (n : xs ≠ []) : PE X (.BoolOp .Or xs pos) (liftE X.K W (rdOr G.sps e)) := by
  cases xs with
  | nil => exact absurd rfl n
  | cons x xs =>
    obtain ⟨a, r, he, h1, h2⟩ := chkB_cons h
    have l1 : sizeOf a < sizeOf e := by rw [he]; simp only [E.cons.sizeOf_spec]; omega
    have l2 : sizeOf r < sizeOf e := by rw [he]; simp only [E.cons.sizeOf_spec]; omega
    have pa := snd_E a c (W := W) h1.2.2
    cases xs with
    | nil =>
      have e2 := chkB_nil h2
      subst e2 he
      rw [rdOr]
      exact pe_one pa
    | cons y ys =>
      have pr := snd_Or r c (W := W) (pos := pos) h2 (by simp)
      obtain ⟨b, r', hr, _⟩ := chkB_cons h2
      subst hr he
      simp only [rdOr] at pr ⊢
      exact s_orV pa pr
termination_by (sizeOf e, 1)
theorem snd_AndT (e : E) {X : Cx} {W : WX} {xs : List Expr} {pos : Pos} (c : Ctx X W k G) (h : chkB (G.ck X.N) X.env.scope e xs = true) (n : xs ≠ []) : PW X (.BoolOp .And xs pos) (liftT X.K W (rdAndT G.sps e)) := by
  cases xs with
  | nil => exact absurd rfl n
  | cons x xs =>
    obtain ⟨a, r, he, h1, h2⟩ := chkB_cons h
    have l1 : sizeOf a < sizeOf e := by rw [he]; simp only [E.cons.sizeOf_spec]; omega
    have l2 : sizeOf r < sizeOf e := by rw [he]; simp only [E.cons.sizeOf_spec]; omega
    have pa := snd_T a c (W := W) h1.2.2 h1.2.1
    cases xs with
    | nil =>
      have e2 := chkB_nil h2
      subst e2 he
      rw [rdAndT]
      exact pw_and1 pa
    | cons y ys =>
      have pr := snd_AndT r c (W := W) (pos := pos) h2 (by simp)
      obtain ⟨b, r', hr, _⟩ := chkB_cons h2
      subst hr he
      simp only [rdAndT] at pr ⊢
      exact s_andT pa pr
termination_by (sizeOf e, 1)
theorem snd_OrT (e : E) {X : Cx} {W : WX} {xs : List Expr} {pos : Pos} (c : Ctx X W k G) (h : chkB (G.ck X.N) X.env.scope e xs = true) (n : xs ≠ []) : PW X (.BoolOp .Or xs pos) (liftT X.K W (rdOrT G.sps e)) := by
  cases xs with
  | nil => exact absurd rfl n
  | cons x xs =>
    obtain ⟨a, r, he, h1, h2⟩ := chkB_cons h
    have l1 : sizeOf a < sizeOf e := by rw [he]; simp only [E.cons.sizeOf_spec]; omega
    have l2 : sizeOf r < sizeOf e := by rw [he]; simp only [E.cons.sizeOf_spec]; omega
    have pa := snd_T a c (W := W) h1.2.2 h1.2.1
    cases xs with
    | nil =>
      have e2 := chkB_nil h2
      subst e2 he
      rw [rdOrT]
      exact pw_or1 pa
    | cons y ys =>
      have pr := snd_OrT r c (W := W) (pos := pos) h2 (by simp)
      obtain ⟨b, r', hr, _⟩ := chkB_cons h2
      subst hr he
      simp only [rdOrT] at pr ⊢
      exact s_orT pa pr
termination_by (sizeOf e, 1)
theorem snd_A (e : E) {X : Cx} {W : WX} {xs : List Expr} (c : Ctx X W k G) (h : chkA (G.ck X.N) X.env.scope e xs = true) : PA X xs (liftA X.K W (rdA G.sps e)) := by
  cases xs with
  | nil =>
    cases chkA_nil h
    rw [rdA]
    exact s_nil
  | cons x xs =>
    obtain ⟨a, r, he, h1, h2⟩ := chkA_cons h
    have l1 : sizeOf a < sizeOf e := by rw [he]; simp only [E.cons.sizeOf_spec]; omega
    have l2 : sizeOf r < sizeOf e := by rw [he]; simp only [E.cons.sizeOf_spec]; omega
    have pa := snd_E a c (W := W) h1.2
    have pr := snd_A r c (W := W) h2
    subst he
    rw [rdA]
    exact s_cons pa pr h1.1
termination_by (sizeOf e, 1)
theorem snd_D (e : E) {X : Cx} {W : WX} {ks : List (Option Expr)} {vs : List Expr} {pos : Pos} (c : Ctx X W k G) (h : chkD (G.ck X.N) X.env.scope e ks vs = true) :
    ∃ trs, PPs X pos ks vs trs ∧ ks.all (·.isSome) = true ∧ ks.length = vs.length ∧ ∀ σ H Q, liftA X.K W (rdA G.sps e) σ H (fun xs H' => ∃ ps, xs = flatP ps ∧ Q ps H') → tPairs trs σ H Q := by
  cases ks with
  | nil =>
    obtain ⟨e1, e2⟩ := chkD_nil h
    subst e1 e2
    rw [rdA]
    exact ⟨[], pps_nil, rfl, rfl, pairs_nil⟩
  | cons k' ks =>
    obtain ⟨a, b, r, x, y, ws, he, hk, hv, h1, h2, h3⟩ := chkD_cons h
    have l1 : sizeOf a < sizeOf e := by rw [he]; simp only [E.cons.sizeOf_spec]; omega
    have l2 : sizeOf b < sizeOf e := by rw [he]; simp only [E.cons.sizeOf_spec]; omega
    have l3 : sizeOf r < sizeOf e := by rw [he]; simp only [E.cons.sizeOf_spec]; omega
    have pa := snd_E a c (W := W) (an h1).2
    have pb := snd_E b c (W := W) (an h2).2
    obtain ⟨trs, p1, p2, p3, p4⟩ := snd_D r c (W := W) (pos := pos) h3
    subst he hk hv
    refine ⟨_, pps_cons pa pb p1, by simp [p2], by simp [p3], ?_⟩
    simp only [rdA]
    exact pairs_step p4
termination_by (sizeOf e, 1)
theorem snd_O (e : E) {X : Cx} {W : WX} {l : Option Expr} (c : Ctx X W k G) (h : (match l with
    | none => isNil e
    | some x => okHead x && chkE (G.ck X.N) X.env.scope e x) = true) : L2.PO X l (liftO X.K W (rdO G.sps e)) := by
  cases l with
  | none =>
    have h : isNil e = true := h
    cases e <;> first | (rw [rdO]; exact s_none) | cases h
  | some x =>
    have pe := snd_E e c (W := W) (an h).2
    have h2 := (an h).2
    cases e with
    | nil => unfold chkE at h2; cases h2
    | _ => simp only [rdO]; exact s_some pe
termination_by (sizeOf e, 2)
theorem snd_C (e : E) {X : Cx} {W : WX} {xs : List Expr} (c : Ctx X W k G) (h : chkC (G.ck X.N) X.env.scope e xs = true) : PTs X xs (liftT X.K W (rdC G.sps e)) := by
  cases xs with
  | nil =>
    cases chkC_nil h
    rw [rdC]
    exact s_ptsnil
  | cons x xs =>
    obtain ⟨a, he, hx, _, h1, h2⟩ := chkC_cons h
    have l1 : sizeOf a < sizeOf e := by rw [he]; simp only [E.cons.sizeOf_spec]; omega
    have pt := snd_T a c (W := W) h2 h1
    subst he hx
    rw [rdC]
    exact pts_one pt
termination_by (sizeOf e, 2)
theorem snd_I (e : E) {X : Cx} {W : WX} {tg x : Expr} (c : Ctx X W k G) (h : chkI (G.ck X.N) X.env.scope e tg x = true) : PI X tg x (liftI X.K W (rdI G.sps e)) := by
  match e, h with
  | .itL e, h => rw [rdI]; exact s_itL (snd_E e c (an h).2)
  | .itR1 e, h =>
    obtain ⟨n, p, y, pos, hx, g⟩ := invI_R1 h
    subst hx
    simp only [Bool.and_eq_true_iff] at g
    cases deq g.1.1
    rw [rdI]
    exact s_itR1 c g.1.2 (snd_E e c g.2.2) g.2.1
  | .itR2 a b, h =>
    obtain ⟨n, p, y, z, pos, hx, g⟩ := invI_R2 h
    subst hx
    simp only [Bool.and_eq_true_iff] at g
    cases deq g.1.1.1
    rw [rdI]
    exact s_itR2 c g.1.1.2 (snd_E a c g.1.2.2) (snd_E b c g.2.2) g.1.2.1 g.2.1
  | .itEL e, h =>
    obtain ⟨es, kk, tpos, n, p, y, pos, ht, hx, g⟩ := invI_EL h
    subst ht hx
    simp only [Bool.and_eq_true_iff] at g
    cases deq g.1.1
    rw [rdI]
    exact s_itEL c g.1.2 (snd_E e c g.2.2) g.2.1
  | .itZ a b, h =>
    obtain ⟨es, kk, tpos, n, p, y, z, pos, ht, hx, g⟩ := invI_Z h
    subst ht hx
    simp only [Bool.and_eq_true_iff] at g
    cases deq g.1.1.1
    rw [rdI]
    exact s_itZ c g.1.1.2 (snd_E a c g.1.2.2) (snd_E b c g.2.2) g.1.2.1 g.2.1
  | .gtup _ _, h | .gdin _ _ _ _, h | .gdix _ _ _, h | .mkx0 _, h | .mkx _ _ _, h | .var _, h | .int _, h | .bl _, h | .str _, h | .non, h | .gint _ _, h | .gstr _ _, h | .op _ _ _ _, h | .frz _, h | .fgt _, h | .isx _ _ _, h | .xfld _ _ _, h | .neg _, h | .cmp _ _ _, h | .chain _ _ _ _ _, h | .land _, h | .lor _, h | .lnot _, h | .ife _ _ _, h | .tup _, h | .lst _ _, h | .dic _, h | .ix _ _, h | .sl _ _ _ _, h
  | .rev _ _, h | .b1 _ _, h | .b2 _ _ _, h | .isi _ _, h | .mth _ _ _, h | .call _ _, h | .meth _ _ _ _ _, h | .make _ _ _, h | .fld _ _ _, h | .comp _ _ _ _ _ _, h | .itT _, h | .itS _, h | .itET _, h | .itES _, h | .nil, h | .cons _ _, h => unfold chkI at h; cases h
termination_by (sizeOf e, 2)
end
end
end Lit
/-! Statements. -/
namespace Lit
open PySem PySem.Spec PyProof.Rows L2

/-! ### is this text that statement -/
def locB (sc : Scope) (x : Str) : Bool := match sc.names.lookup x with
  | some .local => true
  | _ => false
/-- a list comprehension laid right into its name -/
def swB (sc : Scope) (x t : Expr) : Bool := match x, t with
  | .ListComp _ _ s p, .Name y py => locB sc y && py.line == p.line && !(s.names.any fun (n, k) => n == y && (k == .local || k == .cell))
  | _, _ => false
/-- a list comprehension laid where no name of the def's own takes it at once -/
def swN (sc : Scope) (x t : Expr) : Bool := match x, t with
  | .ListComp _ _ _ p, .Name y py => (match sc.names.lookup y with
    | some .cell => true
    | _ => false) || !(py.line == p.line)
  | _, _ => true
def isTupE : Expr → Bool
  | .Tuple .. => true
  | .List .. => true
  | _ => false
def isNameE : Expr → Bool
  | .Name .. => true
  | _ => false
/-- stores in the usual order -/
def stoB (t x : Expr) : Bool := match t, x with
  | .Tuple ts _ _, .Tuple vs _ _ => !(ts.length == 2 || ts.length == 3) || vs.length != ts.length || vs.all (foldedForSure 8) && !(vs.any fun | .Starred .. => true | _ => false)
  | .List .., _ => false
  | _, _ => true
def par2B (sc : Scope) (x y : Str) (px py : Pos) (a b : Expr) : Bool := locB sc x && locB sc y && px.line == py.line && !([a, b].all (foldedForSure 8)) && !([a, b].all (constantsAlone 8))
def par3B (sc : Scope) (x y z : Str) (px py pz : Pos) (a b c : Expr) : Bool := locB sc x && locB sc y && locB sc z && px.line == py.line && px.line == pz.line && !([a, b, c].all (foldedForSure 8)) && !([a, b, c].all (constantsAlone 8))
def chkSubs (c : Ck) (sc : Scope) : E → List Expr → Bool
  | .nil, [] => true
  | .cons o (.cons i r), .Subscript o' i' _ :: es => okHead o' && chkE c sc o o' && okHead i' && chkE c sc i i' && chkSubs c sc r es
  | _, _ => false
/-- a suite's value -/
def chkSV (N : List Str) (sc : Scope) (k : Option Nat) : SV → Expr → Bool
  | .exn, .Name z _ => (match k with
    | some i => decide (N[i]? = some z)
    | none => false) && visB sc z && noDbg z
  | .non, .Constant .none _ _ => true
  | .bl b, .Constant (.bool d) _ _ => decide (b = d)
  | _, _ => false
/-- a suite: names put -/
def chkSu (N : List Str) (sc : Scope) (k : Option Nat) : List (Nat × SV) → List Stmt → Bool
  | [], [] => true
  | (j, v) :: r, .Assign [.Name y _] x _ :: xs => decide (N[j]? = some y) && locB sc y && decide (k ≠ some j) && chkSV N sc k v x && chkSu N sc k r xs
  | _, _ => false
mutual
def chkS (c : Ck) (sc : Scope) : S → Stmt → Bool
  | .expr e, .Expr x _ => okHead x && !isComp x && chkE c sc e x
  | .pass, .Expr (.Constant (.str _) _ _) _ => true
  | .pass, .Pass _ => true
  | .brk, .Break _ => true
  | .cont, .Continue _ => true
  | .set tg e, .Assign [t] x _ => okHead t && okHead x && chkE c sc e x && chkTg c sc none tg t && swN sc x t && stoB t x
  | .setC i (.comp fz it tg vs cond elt), .Assign [.Name y py] (.ListComp e [⟨t, iter, ifs, 0⟩] scope pos) _ => decide (c.N[i]? = some y) && locB sc y && swB sc (.ListComp e [⟨t, iter, ifs, 0⟩] scope pos) (.Name y py) &&
      chkE c sc (.comp fz it tg vs cond elt) (.ListComp e [⟨t, iter, ifs, 0⟩] scope pos)
  | .setT tgs e, .Assign [.Tuple ts _ _] x _ => okHead x && chkE c sc e x && chkSubs c sc tgs ts && !ts.isEmpty && !isComp x
  | .try1 b ks y n su, .Try body [.ExceptHandler (some (.Name z _)) nm (s₀ :: ss) _] [] [] _ => decide (z = y) && glB sc z && noDbg z && c.exs.contains y && ks.all (fun k => c.exs.contains k) && chkSs c sc b body && (match n, nm with
    | some i, some m => decide (c.N[i]? = some m) && locB sc m && chkSu c.N sc (some i) su (s₀ :: ss)
    | none, none => chkSu c.N sc none su (s₀ :: ss)
    | _, _ => false)
  | .setF o f e cs, .Assign [.Attribute o' n _] x _ => okHead x && !isComp x && chkE c sc e x && okHead o' && chkE c sc o o' && decide (n = f) && c.flds.contains f && cs.all (fun k => c.cls.contains k)
  | .augF o f e cs, .AugAssign (.Attribute o' n _) .Add y _ => okHead y && chkE c sc e y && okHead o' && chkE c sc o o' && decide (n = f) && c.flds.contains f && cs.all (fun k => c.cls.contains k)
  | .setI o i e, .Assign [.Subscript o' i' _] x _ => okHead x && chkE c sc e x && okHead o' && chkE c sc o o' && okHead i' && chkE c sc i i'
  | .par2 i j a b, .Assign [.Tuple [.Name x px, .Name y py] _ _] (.Tuple [a', b'] _ _) _ => decide (c.N[i]? = some x) && decide (c.N[j]? = some y) && decide (i ≠ j) && par2B sc x y px py a' b' && decide (x ≠ y) && (okHead a' && chkE c sc a a') && (okHead b' && chkE c sc b b')
  | .par3 i j l a b d, .Assign [.Tuple [.Name x px, .Name y py, .Name z pz] _ _] (.Tuple [a', b', d'] _ _) _ => decide (c.N[i]? = some x) && decide (c.N[j]? = some y) && decide (c.N[l]? = some z) && decide (i ≠ j) && decide (i ≠ l) && decide (j ≠ l) &&
      par3B sc x y z px py pz a' b' d' && decide (x ≠ y) && decide (x ≠ z) && decide (y ≠ z) && (okHead a' && chkE c sc a a') && (okHead b' && chkE c sc b b') && (okHead d' && chkE c sc d d')
  | .aug i e, .AugAssign (.Name x _) .Add y _ => decide (c.N[i]? = some x) && stB sc none x && okHead y && chkE c sc e y
  | .ret e, .Return (some x) _ => okHead x && chkE c sc e x
  | .retN, .Return none _ => true
  | .raise x [] .nil, .Raise (some (.Call (.Name y _) [.Constant (.str _) _ _] [] _)) none _ => decide (y = x) && glB sc y && noDbg y && c.exs.contains x && pExs.contains x
  | .raise x fs es, .Raise (some (.Call (.Name y _) args [] _)) none _ => decide (y = x) && glB sc y && noDbg y && c.exs.contains x && decide (iniF.lookup x = some fs) && decide (fs.length ≤ 100) && !args.isEmpty && chkA c sc es args
  | .ife t a b, .If x y z _ => okHead x && testOk t x && chkE c sc t x && chkSs c sc a y && chkSs c sc b z
  | .whl t b, .While x y [] _ => okHead x && testOk t x && chkE c sc t x && chkSs c sc b y
  | .for_ it tg b, .For t iter y [] _ => okHead t && okHead iter && chkI c sc it t iter && chkTg c sc none tg t && chkSs c sc b y
  | _, _ => false
def chkSs (c : Ck) (sc : Scope) : S → List Stmt → Bool
  | .nil, [] => true
  | .cons a r, x :: xs => chkS c sc a x && chkSs c sc r xs
  | _, _ => false
end

/-! ### readings of told states -/
structure OutS (K : PySem.W.Frag) (W : WX) (H : Hp) (h : PH) (Z : DEnds) (D : Ends) : Prop where
  nx : ∀ ρ' h' σ' H', Z.nx ρ' h' → RelS K H' ρ' σ' → RelH K H' h' → Frm H h H' h' → D.nx σ' H'
  rt : ∀ d h' v H', Z.rt d h' → RelD K H' d v → RelH K H' h' → Frm H h H' h' → D.rt v H'
  bk : ∀ ρ' h' σ' H', Z.bk ρ' h' → RelS K H' ρ' σ' → RelH K H' h' → Frm H h H' h' → D.bk σ' H'
  ct : ∀ ρ' h' σ' H', Z.ct ρ' h' → RelS K H' ρ' σ' → RelH K H' h' → Frm H h H' h' → D.ct σ' H'
  xq : ∀ ρ' x h' σ' cls dd H', Z.xq ρ' x h' → RelS K H' ρ' σ' → RelX K H' x cls dd → RelH K H' h' → Frm H h H' h' → W cls dd σ' H'
def liftS (K : PySem.W.Frag) (W : WX) (r : RS) : TS := fun D σ H => ∃ ρ h Z, RelS K H ρ σ ∧ RelH K H h ∧ r Z ρ h ∧ OutS K W H h Z D
section
variable {K : PySem.W.Frag} {W : WX} {σ : L2.St} {H H1 : Hp} {h h1 : PH} {Z : DEnds} {De : Ends} {ρ : Rho}
theorem OutS.step (o : OutS K W H h Z De) (f : Frm H h H1 h1) : OutS K W H1 h1 Z De :=
  ⟨fun _ _ _ _ a b c d => o.nx _ _ _ _ a b c (f.trans d), fun _ _ _ _ a b c d => o.rt _ _ _ _ a b c (f.trans d), fun _ _ _ _ a b c d => o.bk _ _ _ _ a b c (f.trans d), fun _ _ _ _ a b c d => o.ct _ _ _ _ a b c (f.trans d),
    fun _ _ _ _ _ _ _ a b c d e => o.xq _ _ _ _ _ _ _ a b c d (f.trans e)⟩
theorem OutS.ox (o : OutS K W H h Z De) (rs : RelS K H ρ σ) (rh : RelH K H h) : OutX K W σ H h (Z.xq ρ) := fun x h' cls dd H' q a b f => o.xq _ _ _ _ _ _ _ q (rs.keep (f.keeps rh)) a b f
theorem liftE.bindS {ra : RE} {Q : VK} {P : D → PH → Prop} (rs : RelS K H ρ σ) (rh : RelH K H h) (o : OutS K W H h Z De) (q : ra ρ h (Z.xq ρ) P)
    (k : ∀ d h1 v H1, P d h1 → RelD K H1 d v → RelH K H1 h1 → Frm H h H1 h1 → RelS K H1 ρ σ → OutS K W H1 h1 Z De → Q v H1) : liftE K W ra σ H Q :=
  liftE.bind rs rh q (o.ox rs rh) fun d h1 v H1 p a b c e f _ => k d h1 v H1 p a b c f (o.step c)
end
section
variable {X : Cx} {W : WX} {k : Nat} {G : Sig}
structure CtxS (X : Cx) (W : WX) (k : Nat) (G : Sig) : Prop extends Ctx X W k G where
  kind : X.env.scope.kind = .function
  st : Stores X none
  passes : PassesOwn (model X.prog X.w) X.A X.env X.xe
  ex0 : X.ex = []
  stk : X.stack = X.env :: X.outer
  frm : X.env.frame = some X.env.locals

theorem sw_ok {x t : Expr} {l : Nat} {env : Env} (hk : env.scope.kind = .function) (ok : okHead x = true) (h : swN env.scope x t = true) : swapsWith x (some t) l env = pure false := by
  have hb : env.blockKind = .function := by unfold Env.blockKind; rw [hk]; rfl
  cases x <;> first | cases ok; done | rfl | skip
  rename_i e g s p
  cases t <;> first | rfl | skip
  rename_i y py
  have h : ((match env.scope.names.lookup y with
    | some .cell => true
    | _ => false) || !(py.line == p.line)) = true := h
  unfold swapsWith
  have e2 : (Expr.ListComp e g s p).pos = p := rfl
  simp only [hb, e2]
  rw [Bool.or_eq_true_iff] at h
  rcases h with h | h
  · have e1 : (env.kindOf y == some NameKind.local) = false := by
      unfold Env.kindOf
      split at h
      · rename_i z; rw [z]; rfl
      · cases h
    simp only [e1, Bool.and_false, Bool.false_and]
  · rw [bang h]
    simp only [Bool.and_false, Bool.false_and]
theorem sole_ok {x t : Expr} {l : Nat} {env : Env} (hk : env.scope.kind = .function) (ok : okHead x = true) (h : swN env.scope x t = true) : swapsWithSole [t] x l env = pure false := sw_ok hk ok h
theorem sto_ok {x t : Expr} {env : Env} (h : stoB t x = true) : swappedStores [t] x env = pure none := by
  unfold swappedStores
  unfold stoB at h
  split at h
  · rename_i ts _ _ vs _ _
    simp only [Bool.or_eq_true_iff, Bool.and_eq_true_iff] at h
    by_cases c : (!(ts.length == 2 || ts.length == 3) || vs.length != ts.length || env.blockKind != .function) = true
    · exact if_pos c
    · rcases h with h | ⟨h3, h4⟩
      · exfalso
        apply c
        rcases h with h | h <;> simp only [h, Bool.true_or, Bool.or_true]
      · refine (if_neg c).trans ((if_neg (fun z => ?_)).trans ?_)
        · exact Bool.noConfusion (z.symm.trans (bang h4) : true = false)
        · dsimp only
          split
          · rfl
          · first | rfl | exact if_pos h3
  · cases h
  · rename_i h1 h2
    cases t <;> first | rfl | exact (h1 _ _ rfl).elim | skip
    cases x <;> first | rfl | exact (h2 _ _ _ _ _ _ rfl rfl).elim
theorem loc_kind {env : Env} {x : Str} (h : locB env.scope x = true) : env.scope.names.lookup x = some .local := by
  unfold locB at h
  split at h
  · assumption
  · cases h
theorem star_or (x : Expr) : (match x with
    | .Starred .. => true
    | _ => false) = false ∨ okHead x = false := by cases x <;> first | exact .inl rfl | exact .inr rfl
theorem star_any : ∀ {xs : List Expr}, xs.all okHead = true → (xs.any fun | .Starred .. => true | _ => false) = false
  | [], _ => rfl
  | x :: xs, h => by
    rw [List.all_cons, Bool.and_eq_true_iff] at h
    rw [List.any_cons, star_any h.2, Bool.or_false]
    rcases star_or x with e | e
    · exact e
    · rw [e] at h
      cases h.1
theorem par2_ok {x y : Str} {px py p p2 : Pos} {k k2 : Nat} {a b : Expr} {env : Env} (hk : env.scope.kind = .function) (h : par2B env.scope x y px py a b = true) (ne : x ≠ y) (oa : okHead a = true) (ob : okHead b = true) :
    swappedStores [.Tuple [.Name x px, .Name y py] k p] (.Tuple [a, b] k2 p2) env = pure (some [x, y]) := by
  have hb : env.blockKind = .function := by unfold Env.blockKind; rw [hk]; rfl
  unfold par2B at h
  simp only [Bool.and_eq_true_iff] at h
  obtain ⟨⟨⟨⟨h1, h2⟩, h3⟩, h4⟩, h5⟩ := h
  have k1 : env.kindOf x = some .local := loc_kind h1
  have k2 : env.kindOf y = some .local := loc_kind h2
  have l : (py.line == px.line) = true := by rw [beq_iff_eq] at h3 ⊢; exact h3.symm
  have l1 : (px.line == px.line) = true := by rw [beq_iff_eq]
  have q : ([x, y].eraseDups.length != 2) = false := by
    have : (y == x) = false := by rw [beq_eq_false_iff_ne]; exact fun e => ne e.symm
    simp [List.eraseDups, List.eraseDupsBy, List.eraseDupsBy.loop, this]
  have e1 : (Expr.Name x px).pos = px := rfl
  have sa : ([a, b].any fun | .Starred .. => true | _ => false) = false := star_any (by simp only [List.all_cons, List.all_nil, oa, ob, Bool.and_self])
  have bt : (true == true) = true := rfl
  unfold swappedStores
  refine (if_neg (fun z => by rw [hb] at z; exact Bool.noConfusion (show false = true from z))).trans ((if_neg (fun z => Bool.noConfusion (sa.symm.trans z : false = true))).trans ?_)
  simp only [List.head?_cons, Option.map_some, Option.getD_some, e1, List.filterMap_cons, List.filterMap_nil, k1, k2, l, l1, beq_self_eq_true, Bool.and_self, if_true]
  refine (if_neg (fun z => ?_)).trans ((if_neg (fun z => ?_)).trans ((if_neg (fun z => ?_)).trans rfl))
  · have z' : ((2 != 2) || ([x, y].eraseDups.length != 2)) = true := z
    rw [q] at z'
    cases z'
  · rw [z] at h4; cases h4
  · rw [z] at h5; cases h5
theorem par3_ok {x y w : Str} {px py pw p p2 : Pos} {k k2 : Nat} {a b d : Expr} {env : Env} (hk : env.scope.kind = .function) (h : par3B env.scope x y w px py pw a b d = true) (ne : x ≠ y) (n2 : x ≠ w) (n3 : y ≠ w) (oa : okHead a = true) (ob : okHead b = true) (od : okHead d = true) :
    swappedStores [.Tuple [.Name x px, .Name y py, .Name w pw] k p] (.Tuple [a, b, d] k2 p2) env = pure (some [x, y, w]) := by
  have hb : env.blockKind = .function := by unfold Env.blockKind; rw [hk]; rfl
  unfold par3B at h
  simp only [Bool.and_eq_true_iff] at h
  obtain ⟨⟨⟨⟨⟨⟨h1, h2⟩, h2'⟩, h3⟩, h3'⟩, h4⟩, h5⟩ := h
  have k1 : env.kindOf x = some .local := loc_kind h1
  have k2 : env.kindOf y = some .local := loc_kind h2
  have k3 : env.kindOf w = some .local := loc_kind h2'
  have l : (py.line == px.line) = true := by rw [beq_iff_eq] at h3 ⊢; exact h3.symm
  have l' : (pw.line == px.line) = true := by rw [beq_iff_eq] at h3' ⊢; exact h3'.symm
  have l1 : (px.line == px.line) = true := by rw [beq_iff_eq]
  have q : ([x, y, w].eraseDups.length != 3) = false := by
    have q1 : (y == x) = false := by rw [beq_eq_false_iff_ne]; exact fun e => ne e.symm
    have q2 : (w == x) = false := by rw [beq_eq_false_iff_ne]; exact fun e => n2 e.symm
    have q3 : (w == y) = false := by rw [beq_eq_false_iff_ne]; exact fun e => n3 e.symm
    simp [List.eraseDups, List.eraseDupsBy, List.eraseDupsBy.loop, q1, q2, q3]
  have e1 : (Expr.Name x px).pos = px := rfl
  have sa : ([a, b, d].any fun | .Starred .. => true | _ => false) = false := star_any (by simp only [List.all_cons, List.all_nil, oa, ob, od, Bool.and_self])
  unfold swappedStores
  refine (if_neg (fun z => by rw [hb] at z; exact Bool.noConfusion (show false = true from z))).trans ((if_neg (fun z => Bool.noConfusion (sa.symm.trans z : false = true))).trans ?_)
  simp only [List.head?_cons, Option.map_some, Option.getD_some, e1, List.filterMap_cons, List.filterMap_nil, k1, k2, k3, l, l', l1, beq_self_eq_true, Bool.and_self, if_true]
  refine (if_neg (fun z => ?_)).trans ((if_neg (fun z => ?_)).trans ((if_neg (fun z => ?_)).trans rfl))
  · have z' : ((3 != 3) || ([x, y, w].eraseDups.length != 3)) = true := z
    rw [q] at z'
    cases z'
  · rw [z] at h4; cases h4
  · rw [z] at h5; cases h5
end
end Lit
namespace Lit
open PySem PySem.Spec PyProof.Rows L2
theorem _root_.L2.PS.liftS {X : Cx} {W : WX} {e : Stmt} {t : TS} {r : RS} (p : PS X e t) (h : ∀ (De : Ends) σ H ρ h Z, RelS X.K H ρ σ → RelH X.K H h → r Z ρ h → OutS X.K W H h Z De → t De σ H) : PS X e (liftS X.K W r) :=
  p.lift fun De σ H ⟨ρ, hh, Z, rs, rh, q, o⟩ => h De σ H ρ hh Z rs rh q o
section
variable {X : Cx} {W : WX} {k : Nat} {G : Sig}
theorem st_expr {x : Expr} {pos : Pos} {re : RE} (he : PE X x (liftE X.K W re)) (hs : swapsWith x none pos.line X.env = pure false) : PS X (.Expr x pos) (liftS X.K W fun Z ρ h => re ρ h (Z.xq ρ) fun _ h1 => Z.nx ρ h1) :=
  (ps_expr he hs).liftS fun De σ H ρ h Z rs rh q o => liftE.bindS rs rh o q fun d h1 v H1 p a b c e f => f.nx _ _ _ _ p e b .refl
theorem st_ret {x : Expr} {pos : Pos} {re : RE} (he : PE X x (liftE X.K W re)) : PS X (.Return (some x) pos) (liftS X.K W fun Z ρ h => re ρ h (Z.xq ρ) Z.rt) :=
  (ps_ret he).liftS fun De σ H ρ h Z rs rh q o => liftE.bindS rs rh o q fun d h1 v H1 p a b c e f => f.rt _ _ _ _ p a b .refl
theorem st_retN {pos : Pos} : PS X (.Return none pos) (liftS X.K W fun Z _ h => Z.rt .non h) :=
  ps_retN.liftS fun De σ H ρ h Z rs rh q o => o.rt _ _ .non _ q (by simp only [RelD]) rh .refl
theorem st_next {x : Stmt} (p : PS X x tNext) : PS X x (liftS X.K W fun Z ρ h => Z.nx ρ h) := p.liftS fun De σ H ρ h Z rs rh q o => o.nx _ _ _ _ q rs rh .refl
theorem st_brk {pos : Pos} : PS X (.Break pos) (liftS X.K W fun Z ρ h => Z.bk ρ h) := ps_break.liftS fun De σ H ρ h Z rs rh q o => o.bk _ _ _ _ q rs rh .refl
theorem st_cont {pos : Pos} : PS X (.Continue pos) (liftS X.K W fun Z ρ h => Z.ct ρ h) := ps_continue.liftS fun De σ H ρ h Z rs rh q o => o.ct _ _ _ _ q rs rh .refl
theorem sole1 {t : Expr} (h : okHead t = true) (env : Env) : (assignEach [t] env).map (·.2) = [assign t env] := by cases t <;> first | rfl | cases h
theorem st_set (c : CtxS X W k G) {t x : Expr} {pos : Pos} {tg : Tg} {re : RE} (he : PE X x (liftE X.K W re)) (ot : okHead t = true) (ox : okHead x = true) (ht : chkTg (G.ck X.N) X.env.scope none tg t = true) (hs : swN X.env.scope x t = true) (hw : stoB t x = true) :
    PS X (.Assign [t] x pos) (liftS X.K W fun Z ρ h => re ρ h (Z.xq ρ) fun d h1 => match asg tg d ρ with
      | some ρ1 => Z.nx ρ1 h1
      | none => False) := by
  refine (ps_asg he (pg_tg (N := []) c.toCtx c.st ht) (sole_ok c.kind ox hs) (sto_ok hw) (sole1 ot _)).liftS fun De σ H ρ h Z rs rh q o => liftE.bindS rs rh o q fun d h1 v H1 p a b cc e f => ?_
  cases e1 : asg tg d ρ with
  | none => rw [e1] at p; exact p.elim
  | some ρ1 =>
    rw [e1] at p
    exact asg_ok (vs := tgSlots tg) e1 a e (fun _ z => z) fun σ1 rs1 _ => f.nx _ _ _ _ p rs1 b .refl
theorem st_setC {i : Nat} {x : Stmt} {re : RE} (p : PS X x (tAsg (liftE X.K W re) (gName i))) : PS X x (liftS X.K W fun Z ρ h => re ρ h (Z.xq ρ) fun d h1 => Z.nx (ρ.set i (some d)) h1) :=
  p.liftS fun De σ H ρ h Z rs rh q o => liftE.bindS rs rh o q fun d h1 v H1 p a b c e f => f.nx _ _ _ _ p (e.set a i) b .refl
theorem sub1 {o i : Expr} {pos : Pos} {env : Env} (h : okHead i = true) : ∀ v, assign (.Subscript o i pos) env v = (do
      let ov ← holding [v] (eval o env)
      let iv ← holding [v, ov] (eval i env)
      standAt pos
      holding [v, ov, iv] (setItem ov iv v)
      release [v, ov, iv] []) := by
  intro v
  cases i <;> first | rfl | cases h
theorem stoSub {o i x : Expr} {p : Pos} : stoB (.Subscript o i p) x = true := by cases x <;> rfl
theorem swSub {sc : Scope} {o i x : Expr} {p : Pos} : swN sc x (.Subscript o i p) = true := by cases x <;> rfl
theorem st_setI (c : CtxS X W k G) {o i x : Expr} {p pos : Pos} {re ro ri : RE} (he : PE X x (liftE X.K W re)) (ho : PE X o (liftE X.K W ro)) (hi : PE X i (liftE X.K W ri)) (ox : okHead x = true) (oi : okHead i = true) :
    PS X (.Assign [.Subscript o i p] x pos) (liftS X.K W fun Z ρ h => re ρ h (Z.xq ρ) fun y h1 => ro ρ h1 (Z.xq ρ) fun x h2 => ri ρ h2 (Z.xq ρ) fun k h3 => setD x k y h3 fun h4 => Z.nx ρ h4) := by
  refine (ps_asg he (pg_sub ho hi (set_any c.u64) (sub1 oi)) (sole_ok c.kind ox swSub) (sto_ok stoSub) rfl).liftS fun De σ H ρ h Z rs rh q o => liftE.bindS rs rh o q fun d h1 v H1 p1 a1 b1 c1 e1 f1 => ?_
  refine liftE.bindS e1 b1 f1 p1 fun d2 h2 v2 H2 p2 a2 b2 c2 e2 f2 => ?_
  refine liftE.bindS e2 b2 f2 p2 fun d3 h3 v3 H3 p3 a3 b3 c3 e3 f3 => ?_
  have k2 := c2.keeps b1
  have k3 := c3.keeps b2
  exact ⟨d2, d3, d, h3, _, a2.keep k3, a3, (a1.keep k2).keep k3, b3, p3, fun h' H' q' r' fr => f3.nx _ _ _ _ q' (e3.keep (fr.keeps b3)) r' fr⟩
theorem st_par2 (c : CtxS X W k G) {i j : Nat} {x y : Str} {px py p p2 pos : Pos} {n n2 : Nat} {a b : Expr} {ra rb : RE} (ha : PE X a (liftE X.K W ra)) (hb : PE X b (liftE X.K W rb)) (oa : okHead a = true) (ob : okHead b = true) (hi : X.N[i]? = some x) (hj : X.N[j]? = some y) (hij : i ≠ j)
    (h : par2B X.env.scope x y px py a b = true) (ne : x ≠ y) : PS X (.Assign [.Tuple [.Name x px, .Name y py] n p] (.Tuple [a, b] n2 p2) pos) (liftS X.K W fun Z ρ h => ra ρ h (Z.xq ρ) fun x h1 => rb ρ h1 (Z.xq ρ) fun y h2 => Z.nx ((ρ.set i (some x)).set j (some y)) h2) := by
  have h' := h
  unfold par2B at h'
  simp only [Bool.and_eq_true_iff] at h'
  refine (ps_par (ta := tCons (liftE X.K W ra) (tCons (liftE X.K W rb) tNil)) c.calm c.nd hi hj hij (loc_kind h'.1.1.1.1) (loc_kind h'.1.1.1.2) (pa2 ha hb oa ob) (par2_ok c.kind h ne oa ob)).liftS fun De σ H ρ h Z rs rh q o => ?_
  refine liftE.bindS rs rh o q fun d h1 v H1 p1 a1 b1 c1 e1 f1 => ?_
  refine liftE.bindS e1 b1 f1 p1 fun d2 h2 v2 H2 p2 a2 b2 c2 e2 f2 => ?_
  exact ⟨v, v2, rfl, f2.nx _ _ _ _ p2 ((e2.set (a1.keep (c2.keeps b1)) i).set a2 j) b2 .refl⟩
theorem pa3 {a b d : Expr} {ra rb rd : RE} (ha : PE X a (liftE X.K W ra)) (hb : PE X b (liftE X.K W rb)) (hd : PE X d (liftE X.K W rd)) (oa : okHead a = true) (ob : okHead b = true) (od : okHead d = true) : PA X [a, b, d] (tCons (liftE X.K W ra) (tCons (liftE X.K W rb) (tCons (liftE X.K W rd) tNil))) :=
  pa_cons ha (pa_cons hb (pa_cons hd pa_nil (star_ok od _ _)) (star_ok ob _ _)) (star_ok oa _ _)
theorem st_par3 (c : CtxS X W k G) {i j l : Nat} {x y z : Str} {px py pz p p2 pos : Pos} {n n2 : Nat} {a b d : Expr} {ra rb rd : RE} (ha : PE X a (liftE X.K W ra)) (hb : PE X b (liftE X.K W rb)) (hd : PE X d (liftE X.K W rd)) (oa : okHead a = true) (ob : okHead b = true) (od : okHead d = true)
    (hi : X.N[i]? = some x) (hj : X.N[j]? = some y) (hl : X.N[l]? = some z) (hij : i ≠ j) (hil : i ≠ l) (hjl : j ≠ l) (h : par3B X.env.scope x y z px py pz a b d = true) (ne : x ≠ y) (n2' : x ≠ z) (n3 : y ≠ z) :
    PS X (.Assign [.Tuple [.Name x px, .Name y py, .Name z pz] n p] (.Tuple [a, b, d] n2 p2) pos) (liftS X.K W fun Z ρ h => ra ρ h (Z.xq ρ) fun x h1 => rb ρ h1 (Z.xq ρ) fun y h2 => rd ρ h2 (Z.xq ρ) fun z h3 => Z.nx (((ρ.set i (some x)).set j (some y)).set l (some z)) h3) := by
  have h' := h
  unfold par3B at h'
  simp only [Bool.and_eq_true_iff] at h'
  refine (ps_par3 (ta := tCons (liftE X.K W ra) (tCons (liftE X.K W rb) (tCons (liftE X.K W rd) tNil))) c.calm c.nd hi hj hl hij hil hjl (loc_kind h'.1.1.1.1.1.1) (loc_kind h'.1.1.1.1.1.2) (loc_kind h'.1.1.1.1.2) (pa3 ha hb hd oa ob od) (par3_ok c.kind h ne n2' n3 oa ob od)).liftS fun De σ H ρ h Z rs rh q o => ?_
  refine liftE.bindS rs rh o q fun d h1 v H1 p1 a1 b1 c1 e1 f1 => ?_
  refine liftE.bindS e1 b1 f1 p1 fun d2 h2 v2 H2 p2 a2 b2 c2 e2 f2 => ?_
  refine liftE.bindS e2 b2 f2 p2 fun d3 h3 v3 H3 p3 a3 b3 c3 e3 f3 => ?_
  have k2 := c2.keeps b1
  have k3 := c3.keeps b2
  exact ⟨v, v2, v3, rfl, f3.nx _ _ _ _ p3 (((e3.set ((a1.keep k2).keep k3) i).set (a2.keep k3) j).set a3 l) b3 .refl⟩
theorem st_aug (c : CtxS X W k G) {i : Nat} {x : Str} {p pos : Pos} {e : Expr} {re : RE} (he : PE X e (liftE X.K W re)) (hi : X.N[i]? = some x) (hs : stB X.env.scope none x = true) :
    PS X (.AugAssign (.Name x p) .Add e pos) (liftS X.K W fun Z ρ h => match ρ[i]? with
      | some (some x) => re ρ h (Z.xq ρ) fun y h1 => match x, y with
        | .int a, .int b => Z.nx (ρ.set i (some (.int (a + b)))) h1
        | _, _ => False
      | _ => False) := by
  obtain ⟨l, f⟩ := c.st x hs
  refine (ps_aug c.nd hi l he ip_add f).liftS fun De σ H ρ h Z rs rh q o => ?_
  have q2 : (match ρ[i]? with
      | some (some x) => re ρ h (Z.xq ρ) fun y h1 => match x, y with
        | .int a, .int b => Z.nx (ρ.set i (some (.int (a + b)))) h1
        | _, _ => False
      | _ => False) := q
  cases ei : ρ[i]? with
  | none => rw [ei] at q2; exact q2.elim
  | some oo =>
    cases oo with
    | none => rw [ei] at q2; exact q2.elim
    | some d =>
      rw [ei] at q2
      obtain ⟨v, hv, r⟩ := rs.2 i d ei
      refine ⟨v, hv, liftE.bindS rs rh o q2 fun d2 h1 v2 H1 p1 a1 b1 c1 e1 f1 => ?_⟩
      cases d with
      | int a =>
        cases d2 with
        | int b =>
          exact ⟨a, b, relInt r, relInt a1, f1.nx _ _ _ _ p1 (e1.set (v := .int (a + b)) (by simp only [RelD]) i) b1 .refl⟩
        | _ => exact p1.elim
      | _ => exact p1.elim
theorem st_if {x : Expr} {a b : List Stmt} {pos : Pos} {rt : RT} {ra rb : RS} (ht : PT X x (liftT X.K W rt)) (ha : PSs X a (liftS X.K W ra)) (hb : PSs X b (liftS X.K W rb)) :
    PS X (.If x a b pos) (liftS X.K W fun Z ρ h => rt ρ h (Z.xq ρ) fun k h1 => match k with
      | true => ra Z ρ h1
      | false => rb Z ρ h1) := by
  refine (ps_if ht ha hb).liftS fun De σ H ρ h Z rs rh q o => liftT.bind rs rh q (o.ox rs rh) fun k h1 H1 q1 rh1 f1 _ rs1 _ => ?_
  cases k with
  | true => exact iteT ⟨ρ, h1, Z, rs1, rh1, q1, o.step f1⟩
  | false => exact iteF ⟨ρ, h1, Z, rs1, rh1, q1, o.step f1⟩
theorem st_nil : PSs X [] (liftS X.K W fun Z ρ h => Z.nx ρ h) := pss_nil.lift fun De σ H ⟨ρ, h, Z, rs, rh, q, o⟩ => o.nx _ _ _ _ q rs rh .refl
theorem st_cons {x : Stmt} {xs : List Stmt} {ra rb : RS} (ha : PS X x (liftS X.K W ra)) (hb : PSs X xs (liftS X.K W rb)) : PSs X (x :: xs) (liftS X.K W fun Z ρ h => ra { Z with nx := rb Z } ρ h) :=
  (pss_cons ha hb).lift fun De σ H ⟨ρ, h, Z, rs, rh, q, o⟩ => ⟨ρ, h, { Z with nx := rb Z }, rs, rh, q, ⟨fun ρ' h' σ' H' z r1 r2 f => ⟨ρ', h', Z, r1, r2, z, o.step f⟩, o.rt, o.bk, o.ct, o.xq⟩⟩
theorem st_while (c : CtxS X W k G) {x : Expr} {body : List Stmt} {pos : Pos} {rt : RT} {rb : RS} (ht : PT X x (liftT X.K W rt)) (hb : PSs X body (liftS X.K W rb)) : PS X (.While x body [] pos) (liftS X.K W fun Z ρ h => ∃ n, whileN rt rb n Z ρ h) := by
  refine (ps_while c.passes ht hb).liftS fun De σ0 H0 ρ0 h0 Z rs0 rh0 ⟨n0, q0⟩ o => ?_
  refine ⟨fun n σ H => ∃ ρ h, RelS X.K H ρ σ ∧ RelH X.K H h ∧ Frm H0 h0 H h ∧ whileN rt rb n Z ρ h, ⟨n0, ρ0, h0, rs0, rh0, .refl, q0⟩, ?_⟩
  rintro n σ H ⟨ρ, h, rs, rh, f, q⟩
  cases n with
  | zero => exact False.elim q
  | succ n =>
    have q' : rt ρ h (Z.xq ρ) fun k h1 => match k with
      | true => rb { Z with nx := whileN rt rb n Z, ct := whileN rt rb n Z, bk := Z.nx } ρ h1
      | false => Z.nx ρ h1 := q
    have oo := o.step f
    refine liftT.bind rs rh q' (oo.ox rs rh) fun k h1 H1 q1 rh1 f1 _ rs1 _ => ?_
    have o1 := oo.step f1
    have f01 := f.trans f1
    cases k with
    | false => exact iteF (o1.nx _ _ _ _ q1 rs1 rh1 .refl)
    | true =>
      refine iteT ⟨fun σ H => ∃ ρ h, RelS X.K H ρ σ ∧ RelH X.K H h ∧ Frm H0 h0 H h ∧ whileN rt rb n Z ρ h, fun σ' H' z => ⟨n, Nat.lt_succ_self _, z⟩, ρ, h1, _, rs1, rh1, q1, ⟨?_, o1.rt, ?_, ?_, o1.xq⟩⟩
      · exact fun ρ' h' σ' H' z r1 r2 fr => ⟨ρ', h', r1, r2, f01.trans fr, z⟩
      · exact fun ρ' h' σ' H' z r1 r2 fr => o1.nx _ _ _ _ z r1 r2 fr
      · exact fun ρ' h' σ' H' z r1 r2 fr => ⟨ρ', h', r1, r2, f01.trans fr, z⟩
theorem st_for (c : CtxS X W k G) {t iter : Expr} {body : List Stmt} {pos : Pos} {tg : Tg} {ri : RI} {rb : RS} (hi : PI X t iter (liftI X.K W ri)) (hg : chkTg (G.ck X.N) X.env.scope none tg t = true) (oi : okHead iter = true) (hb : PSs X body (liftS X.K W rb)) :
    PS X (.For t iter body [] pos) (liftS X.K W fun Z ρ h => ri ρ h (Z.xq ρ) fun items stay h1 => forLoop tg rb stay items Z ρ h1) := by
  refine (ps_for c.passes c.calm hi (pg_tg (N := []) c.toCtx c.st hg) hb (folded_ok oi _)).liftS fun De σ0 H0 ρ0 h0 Z rs0 rh0 q0 o0 => ?_
  refine liftI.bind rs0 rh0 q0 (o0.ox rs0 rh0) fun items stay h1 J H1 q1 wd rh1 f1 _ rs1 _ => ?_
  have o := o0.step f1
  obtain ⟨st1, G', Y, w, hG, hY⟩ := wd
  refine L2.for_it w (fun i σ H => ∃ ρ h, RelS X.K H ρ σ ∧ RelH X.K H h ∧ Frm H1 h1 H h ∧ stay h ∧ forLoop tg rb stay (items.drop i) Z ρ h) ?_ ?_ ?_ ?_
  · exact ⟨ρ0, h1, rs1, rh1, .refl, st1, q1⟩
  · rintro i σ H - ⟨ρ, h, rs, rh, f, st, _⟩
    exact hG H h f rh st
  · rintro i x σ H H' hi' ⟨ρ, h, rs, rh, f, st, q⟩ y
    obtain ⟨d, hd, rx, rh', f'⟩ := hY i H h x H' hi' f rh st y
    rw [drop_some hd] at q
    simp only [forLoop] at q
    cases ea : asg tg d ρ with
    | none => rw [ea] at q; exact q.elim
    | some ρ1 =>
      rw [ea] at q
      have fx := f.trans f'
      have ox := o.step fx
      refine asg_ok (vs := tgSlots tg) ea rx (rs.keep (f'.keeps rh)) (fun _ z => z) fun σ1 rsA _ => ?_
      refine ⟨ρ1, h, _, rsA, rh', q, ⟨?_, ox.rt, ?_, ?_, ox.xq⟩⟩
      · exact fun ρ' h' σ' H'' z r1 r2 fr => ⟨ρ', h', r1, r2, fx.trans fr, z.1, z.2⟩
      · exact fun ρ' h' σ' H'' z r1 r2 fr => ox.nx _ _ _ _ z r1 r2 fr
      · exact fun ρ' h' σ' H'' z r1 r2 fr => ⟨ρ', h', r1, r2, fx.trans fr, z.1, z.2⟩
  · rintro σ H ⟨ρ, h, rs, rh, f, st, q⟩
    rw [List.drop_length] at q
    simp only [forLoop] at q
    exact o.nx _ _ _ _ q rs rh f
end
end Lit
/-! Fields are put. -/
namespace Lit
open PySem PySem.Spec PyProof.Rows L2
section
variable {X : Cx} {W : WX} {k : Nat} {G : Sig}
theorem swF {x : Expr} {o : Expr} {f : Str} {p : Pos} {l : Nat} {env : Env} : swapsWith x (some (.Attribute o f p)) l env = pure false := by
  cases x <;> rfl
theorem st_setF (c : Ctx X W k G) {e o : Expr} {f : Str} {cs : List Str} {pos' pos : Pos} {re ro : RE} (he : PE X e (liftE X.K W re)) (ho : PE X o (liftE X.K W ro)) (hf : (G.ck X.N).flds.contains f = true) (hc : cs.all (fun k => (G.ck X.N).cls.contains k) = true) :
    PS X (.Assign [.Attribute o f pos'] e pos) (liftS X.K W fun Z ρ h => re ρ h (Z.xq ρ) fun y h1 => ro ρ h1 (Z.xq ρ) fun x h2 => match x with
      | .ref a => match h2 a with
        | some (.ins c fs) => c ∈ cs ∧ fs.length < 100 ∧ put a (.ins c (putFs f y fs)) h2 fun h3 => Z.nx ρ h3
        | _ => False
      | _ => False) := by
  refine (ps_fld ho he swF).liftS fun De σ H ρ h Z rs rh q o => ?_
  refine liftE.bindS rs rh o q fun y h1 v1 H1 p1 a1 b1 c1 e1 f1 => ?_
  refine liftE.bindS e1 b1 f1 p1 fun x h2 v2 H2 p2 a2 b2 c2 e2 f2 => ?_
  have k2 := c2.keeps b1
  cases x with
  | ref a =>
    dsimp only at p2
    cases ha : h2 a with
    | none => rw [ha] at p2; exact p2.elim
    | some ob =>
      rw [ha] at p2
      cases ob with
      | ins cl fs =>
        obtain ⟨q1, q2, q3⟩ := p2
        cases (show v2 = V.ref a from a2)
        obtain ⟨dx, vs, hd1, hd2⟩ := b2 a _ ha
        have hx := c.cls cl (mem_cs (X := X) (G := G) hc q1)
        refine ⟨a, He.ga X.K cl, dx, vs, rfl, hd1, hx.c, hx.n f (by simpa [Sig.ck] using hf), by rw [relF_len hd2]; omega, ?_⟩
        have nt : NoT H2 a := b2.noT ha
        have kk : Keeps H2 (upd H2 a (.ins (He.ga X.K cl) dx (putF f v1 vs))) := Stay.upd.keeps nt
        have rp : RelH X.K (upd H2 a (.ins (He.ga X.K cl) dx (putF f v1 vs))) (updP h2 a (.ins cl (putFs f y fs))) := b2.put nt ⟨dx, _, upd_same, relF_put ((a1.keep k2).keep kk) (hd2.keep kk)⟩
        refine f2.nx _ _ _ _ (q3 _ updP_same fun b u n z => by rw [updP_ne n]; exact z) (e2.keep kk) rp (Frm.put (.inl (by rw [ha]; exact fun z => nomatch z)))
      | _ => exact p2.elim
  | _ => exact p2.elim
theorem st_augF (c : Ctx X W k G) {e o : Expr} {f : Str} {cs : List Str} {pos' pos : Pos} {re ro : RE} (he : PE X e (liftE X.K W re)) (ho : PE X o (liftE X.K W ro)) (hf : (G.ck X.N).flds.contains f = true) (hc : cs.all (fun k => (G.ck X.N).cls.contains k) = true) :
    PS X (.AugAssign (.Attribute o f pos') .Add e pos) (liftS X.K W fun Z ρ h => ro ρ h (Z.xq ρ) fun x h1 => match x with
      | .ref a => match h1 a with
        | some (.ins c fs) => c ∈ cs ∧ match fs.lookup f with
          | some (.int i) => re ρ h1 (Z.xq ρ) fun y h2 => match y, h2 a with
            | .int j, some (.ins c' fs') => c' = c ∧ fs'.length < 100 ∧ put a (.ins c (putFs f (.int (i + j)) fs')) h2 fun h3 => Z.nx ρ h3
            | _, _ => False
          | _ => False
        | _ => False
      | _ => False) := by
  refine (ps_fldaug ho he in_add).liftS fun De σ H ρ h Z rs rh q o => ?_
  refine liftE.bindS rs rh o q fun x h1 v1 H1 p1 a1 b1 c1 e1 f1 => ?_
  cases x with
  | ref a =>
    dsimp only at p1
    cases ha : h1 a with
    | none => rw [ha] at p1; exact p1.elim
    | some ob =>
      rw [ha] at p1
      cases ob with
      | ins cl fs =>
        obtain ⟨q1, q2⟩ := p1
        cases (show v1 = V.ref a from a1)
        obtain ⟨dx, vs, hd1, hd2⟩ := b1 a _ ha
        have hx := c.cls cl (mem_cs (X := X) (G := G) hc q1)
        cases hl : fs.lookup f with
        | none => rw [hl] at q2; exact q2.elim
        | some d =>
          rw [hl] at q2
          cases d with
          | int i =>
            dsimp only at q2
            obtain ⟨v, hv, rv⟩ := lookF hd2 hl
            cases (show v = V.int i from rv)
            refine ⟨a, He.ga X.K cl, dx, vs, _, rfl, hd1, hx.c, hx.n f (by simpa [Sig.ck] using hf), hv, ?_⟩
            refine liftE.bindS e1 b1 f1 q2 fun y h2 v2 H2 p2 a2 b2 c2 e2 f2 => ?_
            cases y with
            | int j =>
              cases hb : h2 a with
              | none => rw [hb] at p2; exact p2.elim
              | some ob2 =>
                rw [hb] at p2
                cases ob2 with
                | ins cl2 fs2 =>
                  obtain ⟨rfl, q3, q4⟩ := p2
                  cases (show v2 = V.int j from a2)
                  obtain ⟨dx2, vs2, hd3, hd4⟩ := b2 a _ hb
                  refine ⟨i, j, rfl, rfl, dx2, vs2, hd3, by rw [relF_len hd4]; omega, ?_⟩
                  have nt : NoT H2 a := b2.noT hb
                  have kk : Keeps H2 (upd H2 a (.ins (He.ga X.K cl2) dx2 (putF f (.int (i + j)) vs2))) := Stay.upd.keeps nt
                  have rp : RelH X.K (upd H2 a (.ins (He.ga X.K cl2) dx2 (putF f (.int (i + j)) vs2))) (updP h2 a (.ins cl2 (putFs f (.int (i + j)) fs2))) := b2.put nt ⟨dx2, _, upd_same, relF_put (y := .int (i + j)) (by simp only [RelD]) (hd4.keep kk)⟩
                  exact f2.nx _ _ _ _ (q4 _ updP_same fun b u n z => by rw [updP_ne n]; exact z) (e2.keep kk) rp (Frm.put (.inl (by rw [hb]; exact fun z => nomatch z)))
                | _ => exact p2.elim
            | _ => exact p2.elim
          | _ => exact q2.elim
      | _ => exact p1.elim
  | _ => exact p1.elim
end
end Lit
/-! raise X('..') of a refusal without an own __init__ (to be joined with chkS: see NOTES). -/
namespace Lit
open PySem PySem.Spec PyProof.Rows L2
theorem st_raise0 {X : Cx} {W : WX} {k : Nat} {G : Sig} (c : CtxS X W k G) {x m : Str} {j : Nat} {p p2 pos pos' : Pos} (e : ExK X.K X.mg x) (hpl : pExs.contains x = true) (hg : Gl X x) (hd : (x == ("__debug__" : Str)) = false) :
    PS X (.Raise (some (.Call (.Name x p) [.Constant (.str m) j p2] [] pos)) none pos') (liftS X.K W fun Z ρ h => Z.xq ρ ⟨x, []⟩ h) := by
  refine (ps_raise c.calm c.tk (pmk_own F.excBase_ValueError (e.n hpl) e.g e.k (raises_own e.s e.t) hg hd)).liftS fun De σ H ρ h Z rs rh q o => ?_
  exact o.xq _ _ _ _ _ _ _ q rs ⟨rfl, .inl ⟨rfl, rfl⟩⟩ rh .refl
/-- raise X(e, ..) of a refusal with an own __init__ -/
theorem st_raise1 {X : Cx} {W : WX} {k : Nat} {G : Sig} (c : CtxS X W k G) {x : Str} {fs : List Str} {e : Expr} {es : List Expr} {p pos pos' : Pos} {ra : RA} (E : ExK X.K X.mg x) (hk : 2 ≤ k) (O : OwnI X.prog X.w X.K X.mg X.base x fs) (hl : fs.length ≤ 100) (hg : Gl X x)
    (hd : (x == ("__debug__" : Str)) = false) (ha : PA X (e :: es) (liftA X.K W ra)) (he : starEach (e :: es) X.env = (false, eval e X.env) :: starEach es X.env) (hp : (backTo pos (starEach es X.env)).any (·.1) = false) :
    PS X (.Raise (some (.Call (.Name x p) (e :: es) [] pos)) none pos') (liftS X.K W fun Z ρ h => ra ρ h (Z.xq ρ) fun ds h1 => ds.length = fs.length ∧ Z.xq ρ ⟨x, (fs.zip ds).reverse⟩ h1) := by
  obtain ⟨fd, F, B⟩ := O.fn
  refine (ps_raise c.calm c.tk (pmk_oex O.ox O.at_ O.ty F (c.room.mono hk) B .nil C8.pass0 hg E.g ha hd he hp)).liftS fun De σ H ρ h Z rs rh q o => ?_
  refine liftA.bind rs rh q (o.ox rs rh) fun ds h1 vs H1 q1 r1 rh1 f1 k1 rs1 _ => ?_
  obtain ⟨ql, q1⟩ := q1
  have lv : vs.length = fs.length := by rw [r1.len, ql]
  refine ⟨by omega, fun a na => ⟨a, vs, by simp, lv, O.ox, O.nf, upd_same, fun dx H' nd ne ea ed st => ⟨rfl, dx, _, ea, ed, ?_, ?_⟩⟩⟩
  · rwa [upd_ne ne] at nd
  · have nd2 : H1 dx = none := by rwa [upd_ne ne] at nd
    have eH : upd (del H' a) dx (.xd (fs.zip vs).reverse) = upd H1 dx (.xd (fs.zip vs).reverse) := by
      funext b
      by_cases hb : b = dx
      · rw [hb, upd_same, upd_same]
      · rw [upd_ne hb, upd_ne hb]
        by_cases hb2 : b = a
        · rw [hb2, del_same, na]
        · rw [del_ne hb2, st b hb2 hb, upd_ne hb2]
    rw [eH]
    have kp : Keeps H1 (upd H1 dx (.xd (fs.zip vs).reverse)) := Stay.upd.keeps (.free nd2)
    have o1 := o.step f1
    exact o1.xq _ _ _ _ _ _ _ q1 (rs1.keep kp) ⟨rfl, .inr ⟨dx, _, rfl, upd_same, (relF_rev (relF_zip r1)).keep kp⟩⟩ (rh1.laid nd2 (rh1.free nd2)) (Frm.laid nd2)
end Lit
/-! try .. except X (as e), the exception told behind the suite; isinstance and fields of a told exception. -/
namespace Lit
open PySem PySem.Spec PyProof.Rows L2
section
variable {X : Cx} {pins : List (Addr × Obj)} {σ : L2.St} {H : Hp} {s : Shared}
/-- an object of fields that stands, is not tracked and was not there at the def's start, is tracked as an exception -/
theorem track_exc {a : Addr} {oe : Obj} {vs : Array Value} {cls : Value} {d : Option Addr} (I : Inv X pins σ H s) (he : s.heap.get? a = some oe) (hz : Zc cls d oe) (hd : oe.data = .fields vs) (na : H a = none) (n0 : ∀ o, X.s_0.heap.get? a = some o → False)
    (nL : a ≠ X.env.locals) (nC : ∀ x c, X.env.cells.lookup x = some c → c ≠ a) (nP : ∀ p ∈ X.pn ++ pins, p.1 ≠ a) : Inv X pins σ (upd H a (ExV cls d a)) s := by
  have ne : ∀ {b : Addr} {o : HO}, H b = some o → b ≠ a := fun {b o} e z => by rw [z, na] at e; cases e
  have ne0 : ∀ {b : Addr} {o : Obj}, X.s_0.heap.get? b = some o → b ≠ a := fun {b o} e z => n0 o (z ▸ e)
  refine ⟨I.ok, I.os, I.bare, ⟨I.base.keep, I.base.slot, fun b o e n hx => ?_, I.base.there, fun b xs e => ?_, fun b o u e => ?_, fun b ps e => ?_⟩, I.loc, I.cell, ?_, fun x c e => ?_, fun p hp => ?_, fun b o e => ?_, I.len⟩
  · rw [upd_ne (ne0 e)]
    exact I.base.free b o e n hx
  · have z := I.base.tups b xs e
    rw [upd_ne (ne z)]
    exact z
  · have z := I.base.frzs b o u e
    rw [upd_ne (ne z)]
    exact z
  · obtain ⟨more, z⟩ := I.base.tbls b ps e
    exact ⟨more, by rw [upd_ne (ne z)]; exact z⟩
  · rw [upd_ne nL.symm]
    exact I.free
  · rw [upd_ne (nC x c e)]
    exact I.freeC x c e
  · obtain ⟨p1, p2, p3⟩ := I.pin p hp
    exact ⟨p1, by rw [upd_ne (nP p hp)]; exact p2, p3⟩
  · by_cases hb : b = a
    · subst hb
      rw [upd_same] at e
      cases e
      exact ⟨⟨oe, he, hz, vs, hd⟩, ⟨oe, he⟩, fun h1 h2 ⟨o, e1, e2, e3⟩ k => ⟨o, k o e1, e2, e3⟩⟩
    · rw [upd_ne hb] at e
      exact (I.hok b o e).stay (fun _ _ _ q => q) (fun x q => by rw [upd_ne (ne q)]; exact q) (fun x xs q => by rw [upd_ne (ne q)]; exact q)
end
/-- the clause's wish: the suite goes on to what stands behind it, where the exception is told -/
def wKept (K : PySem.W.Frag) (c : Value) (g : L2.St → Addr → L2.St) (f : L2.St → L2.St) (ts : Addr → Value → Option Addr → TS) (Wout : WX) (De : Ends) : WX := fun cls d σ H =>
  ∃ b, PySem.W.exmOne K cls c = some b ∧ (b = true → ∀ a, H a = none → ts a cls d { nx := fun σ1 H1 => H1 a = none → De.nx (f σ1) (upd H1 a (ExV cls d a)), rt := fun _ _ => False } (g σ a) H) ∧ (b = false → Wout cls d σ H)
section
variable {X : Cx} {x : Str} {c : Value} {suite body : List Stmt} {b₀ : Stmt} {np pos pos' : Pos} {tb : WX → TS} {ts : Addr → Value → Option Addr → TS} {Wout : WX}
/-- what holds where an exception of the body has come down -/
structure Down (X : Cx) (pins : List (Addr × Obj)) (σ : L2.St) (H : Hp) (a : Addr) (cls : Value) (d : Option Addr) (B : Heap) (s : Shared) : Prop where
  inv : Inv X pins σ H s
  fly : HandSPX.FlyingZ B (X.env :: X.outer) a (Zc cls d) s.heap
  again : ∀ hp, HandSPX.FlyingZ B (X.env :: X.outer) a (Zc cls d) hp → s.heap.UpToSlots hp → Inv X pins σ H { s with heap := hp }
  na : H a = none
  nL : a ≠ X.env.locals
  nF : a ∉ X.fs
  n0 : ∀ o, X.s_0.heap.get? a = some o → False
  nC : ∀ y q, X.env.cells.lookup y = some q → q ≠ a
  nP : ∀ p ∈ X.pn ++ pins, p.1 ≠ a
theorem down_of {pins pq : List (Addr × Obj)} {σ : L2.St} {H : Hp} {a : Addr} {cls : Value} {d : Option Addr} {B : Heap} {sI s : Shared} {xe : Value → Shared → Prop} (ok : X.Ok) (hx : X.ex = []) (hs : X.stack = X.env :: X.outer) (hf : X.env.frame = some X.env.locals)
    (I : Inv (X.tr (X.pn ++ pins) xe) pq σ H sI) (nb : ∀ b o, sI.heap.get? b = some o → b ∉ frs X.stack → B.get? b = some o) (up : sI.heap.UpToSlots s.heap) (na : H a = none) (os : s.os = sI.os) (ag : AllBare s.gens)
    (fl : HandSPX.FlyingZ B (X.env :: X.outer) a (Zc cls d) s.heap) : Down X pins σ H a cls d B s := by
  have J : Inv X pins σ H sI := I.ofTry ok
  obtain ⟨oe, ws, e1, _, e3⟩ := fl.there
  have off : a ∉ frs (X.env :: X.outer) := fun m => by
    obtain ⟨_, o2, e2, no⟩ := fl.2.2.1.mem m
    cases e1.symm.trans e2
    exact no _ e3
  have new : sI.heap.get? a = none := by
    cases q : sI.heap.get? a with
    | none => rfl
    | some o2 =>
      have q2 := nb a o2 q (by rw [hs]; exact off)
      rw [fl.2.1] at q2
      cases q2
  refine ⟨J.landed nb fl.1 up os ag, fl, fun hp fl2 up2 => J.landed nb fl2.1 (up.trans up2) os ag, na, fun z => ?_, fun m => ?_, fun o q => ?_, fun y q m => ?_, fun p hp z => ?_⟩
  · exact off (List.mem_filterMap.mpr ⟨X.env, List.mem_cons_self, by rw [hf, z]⟩)
  · obtain ⟨e, he, q⟩ := List.mem_filterMap.mp m
    exact off (List.mem_filterMap.mpr ⟨e, List.mem_cons_of_mem _ he, q⟩)
  · obtain ⟨o2, q2⟩ := J.base.there a o q (by rw [hx]; exact List.not_mem_nil)
    rw [new] at q2
    cases q2
  · obtain ⟨v, o2, q2, _⟩ := J.cell y q m
    intro z
    rw [z, new] at q2
    cases q2
  · have q2 := (J.pin p hp).1
    rw [z, new] at q2
    cases q2
/-- the exception is told behind the suite -/
theorem Down.told {pins : List (Addr × Obj)} {σ σ2 : L2.St} {H H2 : Hp} {a : Addr} {cls : Value} {d : Option Addr} {B : Heap} {s s2 : Shared} {oe : Obj} (D : Down X pins σ H a cls d B s) (ok : X.Ok) (hz : Zc cls d oe) (hd : ∃ vs, oe.data = .fields vs)
    (S : Inv (X.suite a ((a, oe) :: (X.pn ++ pins))) [] σ2 H2 s2) : H2 a = none ∧ Inv X pins σ2 (upd H2 a (ExV cls d a)) s2 := by
  obtain ⟨ws, hw⟩ := hd
  obtain ⟨p1, p2, _⟩ := S.pin (a, oe) (by simp)
  exact ⟨p2, track_exc (S.unsuite ok) p1 hz hw p2 D.n0 D.nL D.nC D.nP⟩
/-- no clause takes it: it goes on -/
theorem Down.on {pins : List (Addr × Obj)} {σ : L2.St} {H : Hp} {a : Addr} {cls : Value} {d : Option Addr} {B : Heap} {s : Shared} {Q : Flow → Shared → Prop} (D : Down X pins σ H a cls d B s) (ok : X.Ok) (hs : X.stack = X.env :: X.outer) (hf : X.env.frame = some X.env.locals)
    (go : ∀ hp, HandSPX.HeldZ B (X.env :: X.outer) a (Zc cls d) X.env.locals hp → s.heap.UpToSlots hp → X.xe (.ref a) { s with heap := hp }) :
    wpAny (model X.prog X.w) X.A (handleBy (.ref a) X.env []) Q X.xe s := by
  obtain ⟨oe, ws, T, oT, ts, e1, e2, e3, e4, e5⟩ := D.fly.2.2.2
  refine wpAny_handleBy_nil ?_
  unfold PySem.passOn
  refine wpAny_bind (wpAny_field e1 e3 e4 ?_)
  have nn : ¬ ((Value.ref T == Value.none) = true) := by simp
  rw [if_neg nn]
  have fin : wpAny (model X.prog X.w) X.A (setFlight (.ref a) X.env.frame) (fun _ s4 => wpAny (model X.prog X.w) X.A (throw (.ref a) : Sem Flow) Q X.xe s4) X.xe s := by
    rw [hf]
    exact HandSPX.setFlight_upZ D.fly fun hp held up => wpAny_throw (go hp held up)
  first
    | exact wpAny_bind (wpAny_pure (wpAny_bind fin))
    | exact wpAny_bind fin
/-- the test of the clause, asked of the exception that has come down -/
theorem Down.test {pins : List (Addr × Obj)} {σ : L2.St} {H : Hp} {a : Addr} {cls : Value} {d : Option Addr} {B : Heap} {s : Shared} {b : Bool} {Q : Value → Shared → Prop} {E : Value → Shared → Prop} (D : Down X pins σ H a cls d B s) (hc : Names X x c) (q : Q c s) :
    wpAny (model X.prog X.w) (X.A.mark (some (.ref a))) (eval (.Name x np) X.env) Q E s := by
  obtain ⟨oe, ws, e1, _, e3⟩ := D.fly.there
  have S := D.inv.suite e1 e3 D.na D.nL D.nF
  obtain ⟨g1, g2, g3⟩ := hc
  rcases g3 with g3 | ⟨g3, g4, g5⟩
  · exact ld_glob (X := X.suite a ((a, oe) :: (X.pn ++ pins))) S g1 g3 q g2
  · exact ld_blt (X := X.suite a ((a, oe) :: (X.pn ++ pins))) S g1 g3 g4 q g5 g2
variable {i : Nat} {n : Str}
theorem ps_try_kept (hx : X.ex = []) (hs : X.stack = X.env :: X.outer) (hf : X.env.frame = some X.env.locals) (hN : X.N.Nodup) (hi : X.N[i]? = some n) (hln : X.env.kindOf n = some .local) (hc : Names X x c) (tk : Takes X Wout)
    (hb : ∀ (W : WX) (pn : List (Addr × Obj)) (xe : Value → Shared → Prop), Takes (X.tr pn xe) W → PassesOwn (model X.prog X.w) X.A X.env xe → PSs (X.tr pn xe) body (tb W))
    (hsu : ∀ (a : Addr) (oe : Obj) (cls : Value) (d : Option Addr) (pn : List (Addr × Obj)), Zc cls d oe → (∃ vs, oe.data = .fields vs) → PSs (X.suite a ((a, oe) :: pn)) (b₀ :: suite) (ts a cls d)) :
    PS X (.Try body [.ExceptHandler (some (.Name x np)) (some n) (b₀ :: suite) pos'] [] [] pos) (fun De σ H => tb (wKept X.K c (fun σ a => σ.set i (some (.ref a))) (fun σ => σ.set i none) ts Wout De) De σ H) := by
  constructor
  intro pins s σ H De I h
  have ok := I.ok
  have hfr : X.A.frames = some (X.env :: X.outer) := by rw [ok.frames, hs]
  let W0 := wKept X.K c (fun σ a => σ.set i (some (.ref a))) (fun σ => σ.set i none) ts Wout De
  let catch_ : Value → Shared → Prop := fun e s₁ => wpAny (model X.prog X.w) X.A (noteFrame e X.env) (fun _ s₂ => wpAny (model X.prog X.w) X.A (setFlight e none) (fun _ s₃ => wpAny (model X.prog X.w) X.A (handleBy e X.env [.ExceptHandler (some (.Name x np)) (some n) (b₀ :: suite) pos']) (SP X pins De) X.xe s₃) X.xe s₂) X.xe s₁
  have caught : Takes (X.tr (X.pn ++ pins) catch_) W0 := by
    rintro u s1 ⟨a, B, sI, pq, σ1, H1, cls, d, rfl, I1, nb, up, sky, na, os, ag, b, m, yes, no⟩
    have sky1 : Sky B (X.env :: X.outer) a (Zc cls d) X.env.locals s1.heap := by rw [← hs]; exact sky
    refine Sky.land Zc.steady hfr hf sky1 fun h2 fl2 up2 => ?_
    have D2 : Down X pins σ1 H1 a cls d B { s1 with heap := h2 } := down_of ok hx hs hf I1 nb (up.trans up2) na os ag fl2
    obtain ⟨oe2, ws2, a2, z2, d2⟩ := fl2.there
    have looks : PySem.W.Looks (model X.prog X.w) h2 (typeOf (.ref a)) cls := fun A Q E s k q => wpAny_typeOf_ref (k _ _ a2) (by rw [z2.1]; exact q)
    have match_ := PySem.W.exm_one (M := model X.prog X.w) D2.inv.kIn looks m
    refine wpAny_handleBy_cons (codeAny_handlers_test (D2.test (b := b) hc (match_.here ?_))) (by intro q; cases q)
    cases b with
    | false =>
      exact D2.on ok hs hf fun hp held up3 => tk _ _ ⟨a, B, sI, pins, σ1, H1, cls, d, rfl, I1.ofTry ok, nb, (up.trans up2).trans up3, .inr (.inr (by rw [hs]; exact held)), na, os, ag, no rfl⟩
    | true =>
      refine codeAny_handlers_suite_as (HandSPX.lands_againZ fl2 fun h3 fl3 up3 => ?_)
      have D3 : Down X pins σ1 H1 a cls d B { s1 with heap := h3 } := down_of ok hx hs hf I1 nb ((up.trans up2).trans up3) na os ag fl3
      obtain ⟨oe3, ws3, a3, z3, d3⟩ := fl3.there
      have S3 := D3.inv.suite a3 d3 na D3.nL D3.nF
      refine store_ok (X := X.suite a ((a, oe3) :: (X.pn ++ pins))) (v := .ref a) S3 hN hi (.inl hln) rfl (fun s4 S4 => ?_) (.inr hln)
      refine wpAny_mono ((hsu a oe3 cls d (X.pn ++ pins) z3 ⟨_, d3⟩).run [] s4 _ H1 _ S4 (yes rfl a na)) (fun fl s5 end5 => ?_) fun _ _ z => z.elim
      cases fl with
      | next =>
        obtain ⟨σ5, H5, S5, q5⟩ := end5
        obtain ⟨n5, J5⟩ := D3.told ok z3 ⟨_, d3⟩ S5
        exact gone_ok J5 hN hi hln fun s6 J6 => ⟨_, _, J6, q5 n5⟩
      | brk => obtain ⟨_, _, _, q5⟩ := end5; exact q5.elim
      | cont => obtain ⟨_, _, _, q5⟩ := end5; exact q5.elim
      | ret u => obtain ⟨_, _, _, _, _, q5⟩ := end5; exact q5.elim
  refine wpAny_Try_except (wpAny_mono ((hb W0 (X.pn ++ pins) catch_ caught PassesOwn.looking).run [] s σ H De (I.toTry _) h) (fun fl s1 q => ?_) fun _ _ z => z)
  cases fl with
  | next => obtain ⟨σ1, H1, J, q⟩ := q; exact wpAny_pure ⟨σ1, H1, J.ofTry ok, q⟩
  | brk => obtain ⟨σ1, H1, J, q⟩ := q; exact ⟨σ1, H1, J.ofTry ok, q⟩
  | cont => obtain ⟨σ1, H1, J, q⟩ := q; exact ⟨σ1, H1, J.ofTry ok, q⟩
  | ret u => obtain ⟨v, σ1, H1, J, r, q⟩ := q; exact ⟨v, σ1, H1, J.ofTry ok, r, q⟩
end
/-! ### the same of told values -/
def svV (a : Addr) : SV → V
  | .exn => .ref a
  | .non => .non
  | .bl b => .bl b
def suiteV (a : Addr) : List (Nat × SV) → L2.St → L2.St
  | [], σ => σ
  | (i, v) :: r, σ => suiteV a r (σ.set i (some (svV a v)))
theorem suite_rel {K : PySem.W.Frag} {H : Hp} {a : Addr} : ∀ (su : List (Nat × SV)) {ρ : Rho} {σ : L2.St}, RelS K H ρ σ → RelS K H (suite a su ρ) (suiteV a su σ)
  | [], _, _, r => r
  | (i, v) :: su, _, _, r => suite_rel su (r.set (d := svD a v) (v := svV a v) (by cases v <;> simp only [svD, svV, RelD]) i)
/-- the suite as it is read: slot k holds the exception -/
theorem suite_run {X : Cx} {a : Addr} {oe : Obj} {pn : List (Addr × Obj)} {k : Option Nat} (nd : X.N.Nodup) : ∀ {su : List (Nat × SV)} {ss : List Stmt}, chkSu X.N X.env.scope k su ss = true →
    PSs (X.suite a ((a, oe) :: pn)) ss (fun De σ H => (∀ i, k = some i → σ[i]? = some (some (.ref a))) ∧ De.nx (suiteV a su σ) H)
  | [], [], _ => pss_nil.lift fun De σ H q => q.2
  | [], _ :: _, h => by unfold chkSu at h; cases h
  | (j, v) :: su, [], h => by unfold chkSu at h; cases h
  | (j, v) :: su, st :: ss, h => by
    unfold chkSu at h
    split at h
    · rename_i e _; cases e
    · rename_i j' v' r y py x pos xs e1 e2
      cases e1
      cases e2
      simp only [Bool.and_eq_true_iff] at h
      obtain ⟨⟨⟨⟨h1, h2⟩, h3⟩, h4⟩, h5⟩ := h
      have ih := suite_run (X := X) (a := a) (oe := oe) (pn := pn) nd h5
      have hj := of_decide_eq_true h1
      have hl := loc_kind h2
      have nk := of_decide_eq_true h3
      have ev : PE (X.suite a ((a, oe) :: pn)) x (fun σ H Q => (∀ i, k = some i → σ[i]? = some (some (.ref a))) ∧ Q (svV a v) H) := by
        unfold chkSV at h4
        split at h4
        · rename_i z pz
          simp only [Bool.and_eq_true_iff] at h4
          obtain ⟨⟨h6, h7⟩, h8⟩ := h4
          cases k with
          | none => cases h6
          | some i =>
            obtain ⟨d1, d2, _⟩ := noDbg_ok h8
            exact (pe_var (X := X.suite a ((a, oe) :: pn)) (of_decide_eq_true h6) (vis_ok h7) d1 d2).lift fun σ H Q q => ⟨.ref a, q.1 i rfl, q.2⟩
        · exact pe_non.lift fun σ H Q q => q.2
        · cases of_decide_eq_true h4
          exact pe_bl.lift fun σ H Q q => q.2
        · cases h4
      have sw : swapsWith x (some (.Name y py)) pos.line X.env = pure false := by
        unfold chkSV at h4
        split at h4 <;> first | rfl | cases h4
      refine (pss_cons (ps_set (X := X.suite a ((a, oe) :: pn)) nd hj (.inl hl) ev sw (.inr hl)) ih).lift fun De σ H q => ?_
      refine ⟨q.1, fun i hi => ?_, q.2⟩
      have nj : j ≠ i := fun z => nk (by rw [hi, z])
      rw [List.getElem?_set_ne nj]
      exact q.1 i hi
    · cases h
section
variable {X : Cx} {W : WX} {k : Nat} {G : Sig}
theorem CtxS.tr (c : CtxS X W k G) {W' : WX} {pn : List (Addr × Obj)} {xe : Value → Shared → Prop} (tk : Takes (X.tr pn xe) W') (ps : PassesOwn (model X.prog X.w) X.A X.env xe) : CtxS (X.tr pn xe) W' k G where
  calm := c.calm
  nd := c.nd
  tk := tk
  gd := c.gd
  room := c.room
  fns := c.fns
  blt := c.blt
  gis := c.gis
  gss := c.gss
  exs := c.exs
  exp := c.exp
  cls := c.cls
  own := c.own
  gts := c.gts
  gds := c.gds
  kind := c.kind
  st := c.st
  passes := ps
  ex0 := c.ex0
  stk := c.stk
  frm := c.frm
theorem len_run {X : Cx} {ss : List Stmt} {t : TS} (p : PSs X ss t) : PSs X ss (fun De σ H => σ.length = X.N.length → t De σ H) := ⟨fun pins s σ H De I q => p.run pins s σ H De I (q I.len)⟩
abbrev tSu (X : Cx) (k : Option Nat) (su : List (Nat × SV)) (a : Addr) : TS := fun De σ H => σ.length = X.N.length → (∀ i, k = some i → σ[i]? = some (some (.ref a))) ∧ De.nx (suiteV a su σ) H
/-- what the clause does with a refusal of the body -/
def xqTry (ks : List Str) (x : Str) (n : Option Nat) (su : List (Nat × SV)) (Z : DEnds) : Rho → Exc → PH → Prop := fun ρ' y h' => y.cls ∈ ks ∧ match subE y.cls x with
  | true => match n with
    | some i => ∀ (p : Addr) (h2 : PH), h' p = none → h2 p = some (.exc y.cls y.fs) → Ext h' h2 → Z.nx ((suite p su (ρ'.set i (some (.ref p)))).set i none) h2
    | none => Z.nx (suite 0 su ρ') h'
  | false => Z.xq ρ' y h'
theorem names_ok (c : CtxS X W k G) {x : Str} (hx : x ∈ G.exs) (hg : Gl X x) (hd : (x == ("__debug__" : Str)) = false) : Names X x (.ref (He.ga X.K x)) := ⟨hg, hd, .inl (c.exs x hx).g⟩
theorem st_tryAs (c : CtxS X W k G) {ks : List Str} {x n : Str} {i : Nat} {su : List (Nat × SV)} {np pos' pos : Pos} {body ss : List Stmt} {s₀ : Stmt} {rb : RS} (hb : ∀ (W' : WX) (pn : List (Addr × Obj)) (xe : Value → Shared → Prop), CtxS (X.tr pn xe) W' k G → PSs (X.tr pn xe) body (liftS X.K W' rb))
    (hi : X.N[i]? = some n) (hl : locB X.env.scope n = true) (hx : x ∈ G.exs) (hg : Gl X x) (hd : (x == ("__debug__" : Str)) = false) (hk : ∀ y ∈ ks, y ∈ G.exs) (hs : chkSu X.N X.env.scope (some i) su (s₀ :: ss) = true) :
    PS X (.Try body [.ExceptHandler (some (.Name x np)) (some n) (s₀ :: ss) pos'] [] [] pos) (liftS X.K W fun Z ρ h => rb { Z with xq := xqTry ks x (some i) su Z } ρ h) := by
  refine (ps_try_kept (tb := fun W' => liftS X.K W' rb) (ts := fun a _ _ => tSu X (some i) su a) c.ex0 c.stk c.frm c.nd hi (loc_kind hl) (names_ok c hx hg hd) c.tk (fun W' pn xe tk ps => hb W' pn xe (c.tr tk ps)) (fun a oe cls d pn _ _ => len_run (suite_run c.nd hs))).liftS fun De σ H ρ h Z rs rh q o => ?_
  refine ⟨ρ, h, _, rs, rh, q, o.nx, o.rt, o.bk, o.ct, ?_⟩
  rintro ρ' y h' σ' cls dd H' ⟨hy, q⟩ rs ⟨rfl, rx⟩ rh f
  refine ⟨subE y.cls x, (c.exp y.cls (hk _ hy) x hx).m, fun e a na il => ⟨fun i' e' => ?_, fun _ => ?_⟩, fun e => ?_⟩
  · cases e'
    refine List.getElem?_set_self ?_
    have il2 : σ'.length = X.N.length := by simpa using il
    rw [il2]
    exact (List.getElem?_eq_some_iff.mp hi).1
  · rw [e] at q
    have hn := rh.free na
    have q2 := q a (updP h' a (.exc y.cls y.fs)) hn updP_same fun b u e => by
      rw [updP_ne (fun z => by rw [z, hn] at e; cases e)]
      exact e
    have kp : Keeps H' (upd H' a (ExV (.ref (He.ga X.K y.cls)) dd a)) := Stay.upd.keeps (.free na)
    refine o.nx _ _ _ _ q2 (((suite_rel su ((rs.keep kp).set (d := .ref a) (v := .ref a) (by simp only [RelD]) i)).drop i)) ?_ ?_
    · refine rh.put (.free na) ⟨dd, upd_same, ?_⟩
      rcases rx with ⟨rfl, e2⟩ | ⟨da, vs, rfl, e2, e3⟩
      · exact .inl ⟨rfl, e2⟩
      · exact .inr ⟨da, vs, rfl, kp.d _ _ e2, e3.keep kp⟩
    · exact f.trans (.put (.inr na))
  · rw [e] at q
    exact o.xq _ _ _ _ _ _ _ q rs ⟨rfl, rx⟩ rh f
theorem suite_none {a b : Addr} {N : List Str} {sc : Scope} : ∀ {su : List (Nat × SV)} {ss : List Stmt} {ρ : Rho}, chkSu N sc none su ss = true → suite a su ρ = suite b su ρ
  | [], _, _, _ => rfl
  | (j, v) :: su, [], _, h => by unfold chkSu at h; cases h
  | (j, v) :: su, st :: ss, ρ, h => by
    unfold chkSu at h
    split at h
    · rename_i e _; cases e
    · rename_i j' v' r y py x pos xs e1 e2
      cases e1
      cases e2
      simp only [Bool.and_eq_true_iff] at h
      obtain ⟨⟨_, h4⟩, h5⟩ := h
      have ev : svD a v = svD b v := by
        unfold chkSV at h4
        split at h4
        · simp at h4
        · rfl
        · rfl
        · cases h4
      show suite a su (ρ.set j (some (svD a v))) = suite b su (ρ.set j (some (svD b v)))
      rw [ev]
      exact suite_none h5
    · cases h
theorem st_tryOnly (c : CtxS X W k G) {ks : List Str} {x : Str} {su : List (Nat × SV)} {np pos' pos : Pos} {body ss : List Stmt} {s₀ : Stmt} {rb : RS} (hb : ∀ (W' : WX) (pn : List (Addr × Obj)) (xe : Value → Shared → Prop), CtxS (X.tr pn xe) W' k G → PSs (X.tr pn xe) body (liftS X.K W' rb))
    (hx : x ∈ G.exs) (hg : Gl X x) (hd : (x == ("__debug__" : Str)) = false) (hk : ∀ y ∈ ks, y ∈ G.exs) (hs : chkSu X.N X.env.scope none su (s₀ :: ss) = true) :
    PS X (.Try body [.ExceptHandler (some (.Name x np)) none (s₀ :: ss) pos'] [] [] pos) (liftS X.K W fun Z ρ h => rb { Z with xq := xqTry ks x none su Z } ρ h) := by
  refine (ps_try_only (tb := fun W' => liftS X.K W' rb) (ts := fun a _ _ => tSu X none su a) c.stk c.frm (names_ok c hx hg hd) c.tk (fun W' pn xe tk ps => hb W' pn xe (c.tr tk ps)) (fun a oe cls d pn _ _ => len_run (suite_run c.nd hs))).liftS fun De σ H ρ h Z rs rh q o => ?_
  refine ⟨ρ, h, _, rs, rh, q, o.nx, o.rt, o.bk, o.ct, ?_⟩
  rintro ρ' y h' σ' cls dd H' ⟨hy, q⟩ rs ⟨rfl, rx⟩ rh f
  refine ⟨subE y.cls x, (c.exp y.cls (hk _ hy) x hx).m, fun e a na il => ⟨fun i' e' => (nomatch e'), ?_⟩, fun e => ?_⟩
  · rw [e] at q
    have q : Z.nx (suite 0 su ρ') h' := q
    rw [suite_none (a := 0) (b := a) hs] at q
    exact o.nx _ _ _ _ q (suite_rel su rs) rh f
  · rw [e] at q
    exact o.xq _ _ _ _ _ _ _ q rs ⟨rfl, rx⟩ rh f
/-! ### a tuple's items put into lists and dicts -/
theorem each_subs {c : Ck} {sc : Scope} : ∀ {tgs : E} {ts : List Expr}, chkSubs c sc tgs ts = true → ∀ env : Env, (assignEach ts env).length = ts.length ∧ (assignEach ts env).findIdx? (·.1) = none ∧ (∀ t ∈ ts, ∃ o i p, t = .Subscript o i p)
  | tgs, [], _, _ => ⟨rfl, rfl, fun _ h => nomatch h⟩
  | tgs, t :: ts, h, env => by
    unfold chkSubs at h
    split at h
    · rename_i e; cases e
    · rename_i o i r o' i' p es e1
      cases e1
      simp only [Bool.and_eq_true_iff] at h
      obtain ⟨i1, i2, i3⟩ := each_subs h.2 env
      have st : assignEach (.Subscript o' i' p :: ts) env = (false, assign (.Subscript o' i' p) env) :: assignEach ts env := rfl
      rw [st]
      refine ⟨by simp [i1], ?_, fun t ht => ?_⟩
      · rw [List.findIdx?_cons]
        simp [i2]
      · rcases List.mem_cons.mp ht with e | e
        · exact ⟨o', i', p, e⟩
        · exact i3 t e
    · cases h
theorem subs_len {c : Ck} {sc : Scope} : ∀ {tgs : E} {ts : List Expr}, chkSubs c sc tgs ts = true → eLen tgs = 2 * ts.length
  | tgs, [], h => by
    unfold chkSubs at h
    split at h <;> first | rfl | (rename_i e; cases e; done) | (rename_i e _; cases e; done) | cases h
  | tgs, t :: ts, h => by
    unfold chkSubs at h
    split at h
    · rename_i e; cases e
    · rename_i o i r o' i' p es e1
      cases e1
      simp only [Bool.and_eq_true_iff] at h
      have := subs_len h.2
      simp only [eLen, List.length_cons]
      omega
    · cases h
def liftG (K : PySem.W.Frag) (W : WX) (r : List D → Rho → PH → XQ → (PH → Prop) → Prop) : TGs := fun vs σ H Q => ∃ ds ρ h xq Qd, RelDs K H ds vs ∧ RelS K H ρ σ ∧ RelH K H h ∧ r ds ρ h xq Qd ∧ (∀ h' H', Qd h' → RelH K H' h' → Frm H h H' h' → RelS K H' ρ σ → Q σ H') ∧ OutX K W σ H h xq
theorem pgs_subs (c : CtxS X W k G) (ihE : ∀ (e : E) {x : Expr}, chkE (G.ck X.N) X.env.scope e x = true → PE X x (liftE X.K W (rdE G.sps e))) : ∀ {tgs : E} {ts : List Expr}, chkSubs (G.ck X.N) X.env.scope tgs ts = true → PGs X ts (liftG X.K W (rdSubs G.sps tgs))
  | tgs, [], h => by
    have e : tgs = .nil := by
      unfold chkSubs at h
      split at h <;> first | rfl | (rename_i e; cases e; done) | (rename_i e _; cases e; done) | cases h
    subst e
    refine ⟨fun pins s σ H vs us Q I r ⟨ds, ρ, h, xq, Qd, rd, rs, rh, q, out, ox⟩ => pgs_nil.run pins s σ H vs us Q I r ?_⟩
    cases ds with
    | nil => exact ⟨rel0 rd, out h H q rh .refl rs⟩
    | cons _ _ => exact q.elim
  | tgs, t :: ts, h => by
    unfold chkSubs at h
    split at h
    · rename_i e; cases e
    · rename_i o i r o' i' p es e1
      cases e1
      simp only [Bool.and_eq_true_iff] at h
      obtain ⟨⟨⟨⟨h1, h2⟩, h3⟩, h4⟩, h5⟩ := h
      have ih := pgs_subs c ihE h5
      have one := pgs_cons (pg_sub (pos := p) (ihE o h2) (ihE i h4) (set_any c.u64) (sub1 h3)) ih
      refine ⟨fun pins s σ H vs us Q I rr ⟨ds, ρ, h, xq, Qd, rd, rs, rh, q, out, ox⟩ => one.run pins s σ H vs us Q I rr ?_⟩
      cases ds with
      | nil => exact q.elim
      | cons d ds =>
        simp only [RelDs] at rd
        obtain ⟨v, vr, rfl, r1, r2⟩ := rd
        refine ⟨v, vr, rfl, ?_⟩
        have q' : rdE G.sps o ρ h xq (fun x h1 => rdE G.sps i ρ h1 xq fun k h2 => setD x k d h2 fun h3 => rdSubs G.sps r ds ρ h3 xq Qd) := q
        show liftE X.K W _ σ H _
        refine liftE.bind rs rh q' ox fun d2 h2 v2 H2 p2 a2 b2 c2 e2 f2 g2 => ?_
        refine liftE.bind f2 b2 p2 g2 fun d3 h3 v3 H3 p3 a3 b3 c3 e3 f3 g3 => ?_
        have c23 := c2.trans c3
        have k23 := c23.keeps rh
        refine ⟨d2, d3, d, h3, _, a2.keep e3, a3, r1.keep k23, b3, p3, fun h' H' q' r' fr => ?_⟩
        have c4 := c23.trans fr
        have k4 := c4.keeps rh
        exact ⟨ds, ρ, h', xq, Qd, r2.keep k4, rs.keep k4, r', q', fun h'' H'' z1 z2 z3 z4 => out h'' H'' z1 z2 (c4.trans z3) z4, ox.step c4⟩
    · cases h
theorem sto_subs {ts : List Expr} {kk : Nat} {p : Pos} {x : Expr} {env : Env} (h : ∀ t ∈ ts, ∃ o i p, t = .Subscript o i p) (ne : ts ≠ []) : swappedStores [.Tuple ts kk p] x env = pure none := by
  unfold swappedStores
  cases x <;> first | rfl | skip
  rename_i vs k2 p2
  by_cases c : (!(ts.length == 2 || ts.length == 3) || vs.length != ts.length || env.blockKind != .function) = true
  · exact if_pos c
  · refine (if_neg c).trans ?_
    by_cases c2 : (vs.any fun | .Starred .. => true | _ => false) = true
    · exact if_pos c2
    · refine (if_neg c2).trans ?_
      have e : ∀ g : Expr → Option Str, (∀ o i p, g (.Subscript o i p) = none) → ts.filterMap g = [] := fun g hg => by
        rw [List.filterMap_eq_nil_iff]
        intro t ht
        obtain ⟨o, i, p, rfl⟩ := h t ht
        exact hg o i p
      dsimp only
      rw [e _ (fun o i p => rfl)]
      refine if_pos ?_
      cases ts with
      | nil => exact absurd rfl ne
      | cons t ts => rfl
theorem st_setT (c : CtxS X W k G) (ihE : ∀ (e : E) {x : Expr}, chkE (G.ck X.N) X.env.scope e x = true → PE X x (liftE X.K W (rdE G.sps e))) {tgs e : E} {ts : List Expr} {x : Expr} {kk : Nat} {p pos : Pos} (ox : okHead x = true) (he : chkE (G.ck X.N) X.env.scope e x = true) (nc : isComp x = false)
    (ht : chkSubs (G.ck X.N) X.env.scope tgs ts = true) (ne : ts ≠ []) : PS X (.Assign [.Tuple ts kk p] x pos) (liftS X.K W fun Z ρ h => rdE G.sps e ρ h (Z.xq ρ) fun x h1 => match x with
      | .tup ds => eLen tgs = 2 * ds.length ∧ rdSubs G.sps tgs ds ρ h1 (Z.xq ρ) fun h2 => Z.nx ρ h2
      | _ => False) := by
  obtain ⟨e1, e2, e3⟩ := each_subs ht X.env
  have sw : swapsWithSole [.Tuple ts kk p] x pos.line X.env = pure false := by cases x <;> first | rfl | cases ox; done | cases nc
  refine (ps_asg (ihE e he) (pg_tup c.calm (pgs_subs c ihE ht) e1 e2) sw (sto_subs e3 ne) rfl).liftS fun De σ H ρ h Z rs rh q o => ?_
  refine liftE.bindS rs rh o q fun d h1 v H1 p1 a1 b1 c1 f1 o1 => ?_
  cases d with
  | tup ds =>
    obtain ⟨a, vs, rfl, hv, rv⟩ := relTup a1
    refine ⟨a, vs, rfl, hv, ?_, ds, ρ, h1, Z.xq ρ, _, rv, f1, b1, p1.2, fun h' H' z1 z2 z3 z4 => o1.nx _ _ _ _ z1 z4 z2 z3, o1.ox f1 b1⟩
    have := subs_len ht
    have := p1.1
    rw [rv.len]
    omega
  | _ => exact p1.elim
end
end Lit
namespace Lit
open PySem PySem.Spec PyProof.Rows L2
theorem swE {x : Expr} {l : Nat} {env : Env} (ok : okHead x = true) (h : isComp x = false) : swapsWith x none l env = pure false := by
  cases x <;> first | rfl | cases ok; done | cases h
section
variable {k : Nat} {G : Sig}
theorem chkSs_nil {c : Ck} {sc : Scope} {e : S} (h : chkSs c sc e [] = true) : e = .nil := by
  cases e <;> first | rfl | (unfold chkSs at h; cases h)
theorem chkSs_cons {c : Ck} {sc : Scope} {e : S} {x : Stmt} {xs : List Stmt} (h : chkSs c sc e (x :: xs) = true) : ∃ a r, e = .cons a r ∧ chkS c sc a x = true ∧ chkSs c sc r xs = true := by
  cases e <;> first | (unfold chkSs at h; exact ⟨_, _, rfl, Bool.and_eq_true_iff.mp h⟩) | (unfold chkSs at h; cases h)
mutual
theorem snd_Ss (e : S) {X : Cx} {W : WX} {xs : List Stmt} (c : CtxS X W k G) (h : chkSs (G.ck X.N) X.env.scope e xs = true) : PSs X xs (liftS X.K W (rdS G.sps e)) := by
  cases xs with
  | nil =>
    cases chkSs_nil h
    simp only [rdS]
    exact st_nil
  | cons x xs =>
    obtain ⟨a, r, he, h1, h2⟩ := chkSs_cons h
    have l1 : sizeOf a < sizeOf e := by rw [he]; simp only [S.cons.sizeOf_spec]; omega
    have l2 : sizeOf r < sizeOf e := by rw [he]; simp only [S.cons.sizeOf_spec]; omega
    have pa := snd_S a c h1
    have pr := snd_Ss r c h2
    subst he
    simp only [rdS]
    exact st_cons pa pr
termination_by (sizeOf e, 1)
theorem snd_S : ∀ (e : S) {X : Cx} {W : WX} {x : Stmt}, CtxS X W k G → chkS (G.ck X.N) X.env.scope e x = true → PS X x (liftS X.K W (rdS G.sps e))
  | .expr e, X, W, x, c, h => by
    unfold chkS at h
    split at h <;> first | (rename_i q; cases q; done) | cases h; done | skip
    rename_i q
    cases q
    simp only [Bool.and_eq_true_iff] at h
    simp only [rdS]
    exact st_expr (snd_E e c.toCtx h.2) (swE h.1.1 (bang h.1.2))
  | .pass, X, W, x, c, h => by
    simp only [rdS]
    unfold chkS at h
    split at h <;> first | (rename_i q; cases q; done) | cases h; done | skip
    · exact st_next ps_doc
    · exact st_next ps_pass
  | .brk, X, W, x, c, h => by
    simp only [rdS]
    unfold chkS at h
    split at h <;> first | (rename_i q; cases q; done) | cases h; done | skip
    exact st_brk
  | .cont, X, W, x, c, h => by
    simp only [rdS]
    unfold chkS at h
    split at h <;> first | (rename_i q; cases q; done) | cases h; done | skip
    exact st_cont
  | .set tg e, X, W, x, c, h => by
    unfold chkS at h
    split at h <;> first | (rename_i q; cases q; done) | cases h; done | skip
    rename_i q
    cases q
    simp only [Bool.and_eq_true_iff] at h
    simp only [rdS]
    exact st_set c (snd_E e c.toCtx h.1.1.1.2) h.1.1.1.1.1 h.1.1.1.1.2 h.1.1.2 h.1.2 h.2
  | .setC i e, X, W, x, c, h => by
    unfold chkS at h
    split at h <;> first | (rename_i q; cases q; done) | cases h; done | skip
    rename_i q
    cases q
    simp only [Bool.and_eq_true_iff] at h
    obtain ⟨⟨⟨h1, h2⟩, h3⟩, h4⟩ := h
    unfold swB at h3
    simp only [Bool.and_eq_true_iff] at h3
    obtain ⟨e', t, iter, ifs, scope, pos, hx, g⟩ := inv_comp h4
    cases hx
    simp only [Bool.and_eq_true_iff] at g
    simp only [rdS, rdE]
    exact st_setC (s_setLc c.toCtx (deq h1) (loc_kind h2) (sw_true c.kind (loc_kind h2) h3.1.2 (bang h3.2)) (snd_I _ c.toCtx g.1.1.1.1.1.1) g.1.1.1.1.1.2 g.1.1.1.1.2 g.1.1.1.2 g.1.1.2 (fun s H C cl fp => snd_C _ (c.toCtx.blk s H _ (compEnvC _ cl C X.env) fp) g.1.2) (fun s H C cl fp => snd_E _ (c.toCtx.blk s H _ (compEnvC _ cl C X.env) fp) g.2.2))
  | .setI o i e, X, W, x, c, h => by
    unfold chkS at h
    split at h <;> first | (rename_i q; cases q; done) | cases h; done | skip
    rename_i q
    cases q
    simp only [Bool.and_eq_true_iff] at h
    simp only [rdS]
    exact st_setI c (snd_E e c.toCtx h.1.1.1.1.2) (snd_E o c.toCtx h.1.1.2) (snd_E i c.toCtx h.2) h.1.1.1.1.1 h.1.2
  | .par2 i j a b, X, W, x, c, h => by
    unfold chkS at h
    split at h <;> first | (rename_i q; cases q; done) | cases h; done | skip
    rename_i q
    cases q
    simp only [Bool.and_eq_true_iff] at h
    obtain ⟨⟨⟨⟨⟨⟨h1, h2⟩, h3⟩, h4⟩, h5⟩, h6⟩, h7⟩ := h
    simp only [rdS]
    exact st_par2 c (snd_E a c.toCtx h6.2) (snd_E b c.toCtx h7.2) h6.1 h7.1 (deq h1) (deq h2) (deq h3) h4 (deq h5)
  | .par3 i j l a b d, X, W, x, c, h => by
    unfold chkS at h
    split at h <;> first | (rename_i q; cases q; done) | cases h; done | skip
    rename_i q
    cases q
    simp only [Bool.and_eq_true_iff] at h
    obtain ⟨⟨⟨⟨⟨⟨⟨⟨⟨⟨⟨⟨h1, h2⟩, h3⟩, h4⟩, h5⟩, h6⟩, h7⟩, h8⟩, h9⟩, h10⟩, h11⟩, h12⟩, h13⟩ := h
    simp only [rdS]
    exact st_par3 c (snd_E a c.toCtx h11.2) (snd_E b c.toCtx h12.2) (snd_E d c.toCtx h13.2) h11.1 h12.1 h13.1 (deq h1) (deq h2) (deq h3) (deq h4) (deq h5) (deq h6) h7 (deq h8) (deq h9) (deq h10)
  | .aug i e, X, W, x, c, h => by
    unfold chkS at h
    split at h <;> first | (rename_i q; cases q; done) | cases h; done | skip
    rename_i q
    cases q
    simp only [Bool.and_eq_true_iff] at h
    simp only [rdS]
    exact st_aug c (snd_E e c.toCtx h.2) (deq h.1.1.1) h.1.1.2
  | .ret e, X, W, x, c, h => by
    unfold chkS at h
    split at h <;> first | (rename_i q; cases q; done) | cases h; done | skip
    rename_i q
    cases q
    simp only [rdS]
    exact st_ret (snd_E e c.toCtx (an h).2)
  | .retN, X, W, x, c, h => by
    simp only [rdS]
    unfold chkS at h
    split at h <;> first | (rename_i q; cases q; done) | cases h; done | skip
    exact st_retN
  | .ife t a b, X, W, x, c, h => by
    unfold chkS at h
    split at h <;> first | (rename_i q; cases q; done) | cases h; done | skip
    rename_i q
    cases q
    simp only [Bool.and_eq_true_iff] at h
    simp only [rdS]
    exact st_if (snd_T t c.toCtx h.1.1.2 h.1.1.1.2) (snd_Ss a c h.1.2) (snd_Ss b c h.2)
  | .whl t b, X, W, x, c, h => by
    unfold chkS at h
    split at h <;> first | (rename_i q; cases q; done) | cases h; done | skip
    rename_i q
    cases q
    simp only [Bool.and_eq_true_iff] at h
    simp only [rdS]
    exact st_while c (snd_T t c.toCtx h.1.2 h.1.1.2) (snd_Ss b c h.2)
  | .for_ it tg b, X, W, x, c, h => by
    unfold chkS at h
    split at h <;> first | (rename_i q; cases q; done) | cases h; done | skip
    rename_i q
    cases q
    simp only [Bool.and_eq_true_iff] at h
    simp only [rdS]
    exact st_for c (snd_I it c.toCtx h.1.1.2) h.1.2 h.1.1.1.2 (snd_Ss b c h.2)
  | .setF o f e cs, X, W, x, c, h => by
    unfold chkS at h
    split at h <;> first | (rename_i q; cases q; done) | cases h; done | skip
    rename_i q
    cases q
    simp only [Bool.and_eq_true_iff] at h
    obtain ⟨⟨⟨⟨⟨⟨⟨h1, h2⟩, h3⟩, h4⟩, h5⟩, h6⟩, h7⟩, h8⟩ := h
    cases deq h6
    simp only [rdS]
    exact st_setF c.toCtx (snd_E e c.toCtx h3) (snd_E o c.toCtx h5) h7 h8
  | .augF o f e cs, X, W, x, c, h => by
    unfold chkS at h
    split at h <;> first | (rename_i q; cases q; done) | cases h; done | skip
    rename_i q
    cases q
    simp only [Bool.and_eq_true_iff] at h
    obtain ⟨⟨⟨⟨⟨⟨h1, h2⟩, h3⟩, h4⟩, h5⟩, h6⟩, h7⟩ := h
    cases deq h5
    simp only [rdS]
    exact st_augF c.toCtx (snd_E e c.toCtx h2) (snd_E o c.toCtx h4) h6 h7
  | .raise y fs es, X, W, x, c, h => by
    unfold chkS at h
    split at h <;> first | (rename_i q; cases q; done) | cases h; done | skip
    · rename_i q
      cases q
      simp only [Bool.and_eq_true_iff] at h
      cases deq h.1.1.1.1
      simp only [rdS, rdA, List.zip_nil_left, List.length_nil, List.reverse_nil, true_and]
      exact st_raise0 c (c.exs _ (by simpa [Sig.ck] using h.1.2)) h.2 (gl_ok h.1.1.1.2) (noDbg_ok h.1.1.2).1
    · rename_i q
      cases q
      simp only [Bool.and_eq_true_iff] at h
      obtain ⟨⟨⟨⟨⟨⟨⟨h1, h2⟩, h3⟩, h4⟩, h5⟩, h6⟩, h7⟩, h8⟩ := h
      cases deq h1
      have hx : y ∈ G.exs := by simpa [Sig.ck] using h4
      obtain ⟨hk, O⟩ := c.own _ hx _ (deq h5)
      simp only [rdS]
      rename_i args _ _ _
      cases args with
      | nil => cases h7
      | cons b l =>
        obtain ⟨a, r, he, hh, ht⟩ := chkA_cons h8
        exact st_raise1 c (c.exs _ hx) hk O (deq h6) (gl_ok h2) (noDbg_ok h3).1 (snd_A es c.toCtx h8) (star_ok hh.1 _ _) (chkA_star ht _ _)
  | .setT tgs e, X, W, x, c, h => by
    unfold chkS at h
    split at h <;> first | (rename_i q; cases q; done) | cases h; done | skip
    rename_i q
    cases q
    simp only [Bool.and_eq_true_iff] at h
    simp only [rdS]
    refine st_setT c (fun e x hh => snd_E e c.toCtx hh) h.1.1.1.1 h.1.1.1.2 (bang h.2) h.1.1.2 (fun z => ?_)
    rw [z] at h
    simp at h
  | .try1 b ks y n su, X, W, x, c, h => by
    unfold chkS at h
    split at h <;> first | (rename_i q; cases q; done) | cases h; done | skip
    rename_i q
    cases q
    simp only [Bool.and_eq_true_iff] at h
    obtain ⟨⟨⟨⟨⟨⟨h1, h2⟩, h3⟩, h4⟩, h5⟩, h6⟩, h7⟩ := h
    cases deq h1
    simp only [rdS]
    have hx : y ∈ G.exs := by simpa [Sig.ck] using h4
    have hk : ∀ z ∈ ks, z ∈ G.exs := fun z hz => mem_ks (X := X) h5 hz
    split at h7
    · simp only [Bool.and_eq_true_iff] at h7
      obtain ⟨⟨g1, g2⟩, g3⟩ := h7
      exact st_tryAs c (fun W' pn xe c' => snd_Ss b c' h6) (deq g1) g2 hx (gl_ok h2) (noDbg_ok h3).1 hk g3
    · exact st_tryOnly c (fun W' pn xe c' => snd_Ss b c' h6) hx (gl_ok h2) (noDbg_ok h3).1 hk h7
    · cases h7
  | .nil, X, W, x, c, h => by unfold chkS at h; first | cases h; done | (split at h <;> first | (rename_i q; cases q; done) | cases h)
  | .cons _ _, X, W, x, c, h => by unfold chkS at h; first | cases h; done | (split at h <;> first | (rename_i q; cases q; done) | cases h)
termination_by e => (sizeOf e, 0)
end
end
end Lit
/-! Defs and the law's end, with the guards told. -/
namespace Lit
open PySem PySem.Spec PyProof.Rows L2

/-- the context of a body -/
abbrev bx (P : Program) (w : World) (K : PySem.W.Frag) (mg : Str → Option Value) (base : Heap) (N : List Str) (ql : Str) (sc : Scope) (f : Addr) (cd : Value) (A : Around) (ou : List Env) (s : Shared) (H : Hp) (E : XK) : Cx :=
  cxOf (L2.CX P w) P w K mg base N ql sc f cd A ou s H E
section
variable {P : Program} {w : World} {K : PySem.W.Frag} {mg : Str → Option Value} {base : Heap} {k : Nat} {f : Addr} {x ql : Str} {pa : Arguments} {bd : List Stmt} {sc : Scope} {dvs : List V} {kws : List (Str × V)} {fd : FuncData} {N ps : List Str} {sp : Sp}
/-- what the body leaves is what the caller is given -/
theorem fin_of {cd : Value} {A : Around} {ou : List Env} {s s' : Shared} {H : Hp} {E : XK} {Q : VK} {fl : Flow} (q : SP (bx P w K mg base N ql sc f cd A ou s H E) [] { nx := fun _ H' => Q .non H', rt := Q } fl s') : CR (L2.CX P w) ou P w H s Q E (.ok fl) s' ∨ ∃ u, CE ou P w H s Q u s' ∧ ((fl = .next ∧ u = .none) ∨ fl = .ret u) := by
  cases fl with
  | brk => exact (let ⟨_, _, _, z⟩ := q; False.elim z)
  | cont => exact (let ⟨_, _, _, z⟩ := q; False.elim z)
  | next =>
    obtain ⟨st, Hn, J, z⟩ := q
    exact .inr ⟨.none, ⟨V.non, Hn, J.os, J.bare, J.base, J.hok, rfl, z⟩, .inl ⟨rfl, rfl⟩⟩
  | ret u =>
    obtain ⟨vv, st, Hn, J, r, z⟩ := q
    exact .inr ⟨u, ⟨vv, Hn, J.os, J.bare, J.base, J.hok, r, z⟩, .inr rfl⟩
theorem fnG_of (F : FunD K x ql pa bd sc dvs kws f fd) (S : FnScope N ps sc) (hl : ∀ vs H Q E, sp vs H Q E → vs.length = ps.length)
    (hb : ∀ (cd : Value) (A : Around) (ou : List Env) (s : Shared) (H : Hp) (vs : List V) (Q : VK) (E : XK), A.guards = some [] → Room k (A.deeper (envOfC ql sc s.heap.objs.size f cd)) → sp vs H Q E →
      ∃ t, PSs (bx P w K mg base N ql sc f cd A ou s H E) bd t ∧ t { nx := fun _ H' => Q .non H', rt := Q } (L2.start N vs) H) : FnG P w K mg base (k + 1) f fd ps sp := by
  obtain ⟨oc, od, dV, kV, doc, pm, an, cd, ct, osl, efd, lk, hc, _, _⟩ := F.ex
  cases efd
  constructor
  · exact hl
  intro A ou s H args us vs Q E hg hr e0 bt rv q
  have nv := hl vs H Q E q
  have inK : K.In s.heap := e0.mod.kin.keeps (fun b o z => (e0.bs b o z).1)
  have nolim : s.heap.NoLimit := e0.mod.nolimit.keeps (fun b o z => (e0.bs b o z).1)
  refine codeAny_call_function hr.depth (inK _ _ lk) rfl S.co S.gen rfl (PySem.W.codeRec_of inK hc) (bt _ _ _ _ (wpAny_newFunctionEnv_cells S.kind ?_ ?_))
  · rintro ⟨n, v⟩ hy
    rcases S.par n (List.of_mem_zip hy).1 with z | z
    · exact .inl z
    · exact .inr ⟨z, PySem.W.cellsFrom_some _ _ _ (.inl z)⟩
  · intro env he s1 x1
    cases he
    obtain ⟨t, ht, hq⟩ := hb cd A ou s H vs Q E hg (hr.deeper _) q
    have I : Inv (bx P w K mg base N ql sc f cd A ou s H E) [] (L2.start N vs) H s1 := inv_start S hr.hd e0 nv rv x1
    refine ⟨nolim.keeps x1.toInCall.keep, codeAny_func (wpAny_mono (ht.run [] s1 _ H _ I hq) ?_ fun _ _ z => z)⟩
    intro fl s2 z
    rcases fin_of z with c | ⟨u, c, ⟨rfl, rfl⟩ | rfl⟩
    · cases fl with
      | ret u => exact c
      | next => exact c.elim
      | brk => exact c.elim
      | cont => exact c.elim
    · exact c
    · exact c
end

/-! ### the body's context -/
structure Pr (P : Program) (w : World) (K : PySem.W.Frag) (mg : Str → Option Value) (base : Heap) (k : Nat) (G : Sig) : Prop where
  fns : ∀ (i : Nat) (f : Str × Option Str) (sp : DSp), G.fns[i]? = some (f, sp) → ∃ fa fd ps j, j + lvl f ≤ k ∧ FAt K mg f fa ∧ FnG P w K mg base j fa fd ps (liftSp K sp) ∧ Binds K fd ps []
  blt : ∀ x ∈ G.blt, mg x = none
  gis : ∀ x i, (x, i) ∈ G.gis → ∃ t, mg x = some (.int i t)
  gss : ∀ x s, (x, s) ∈ G.gss → ∃ t, mg x = some (.str (mkS s) t)
  exs : ∀ x ∈ G.exs, ExK K mg x
  exp : ∀ x ∈ G.exs, ∀ y ∈ G.exs, ExP K x y
  cls : ∀ x ∈ G.cls, ClK K G.flds x
  own : ∀ x ∈ G.exs, ∀ fs, iniF.lookup x = some fs → 2 ≤ k ∧ OwnI P w K mg base x fs
  gts : ∀ x ss, (x, ss) ∈ G.gts → ∃ a, mg x = some (.ref a) ∧ KTp K a ss
  gds : ∀ x kvs, (x, kvs) ∈ G.gds → ∃ a, mg x = some (.ref a) ∧ KDx K w a kvs
section
variable {P : Program} {w : World} {K : PySem.W.Frag} {mg : Str → Option Value} {base : Heap} {k : Nat} {f : Addr} {x ql : Str} {pa : Arguments} {bd : List Stmt} {sc : Scope} {dvs : List V} {kws : List (Str × V)} {fd : FuncData} {N ps : List Str} {G : Sig}
theorem stores_fn {cd : Value} {A : Around} {ou : List Env} {s : Shared} {H : Hp} {E : XK} : Stores (bx P w K mg base N ql sc f cd A ou s H E) none := fun y h => by
  have h : stB sc none y = true := h
  unfold stB at h
  simp only [Option.getD_none] at h
  refine ⟨?_, .inl rfl⟩
  split at h
  · exact .inl (by assumption)
  · exact .inr (by assumption)
  · cases h
theorem ctx_fn {cd : Value} {A : Around} {ou : List Env} {s : Shared} {H : Hp} {E : XK} (p : Pr P w K mg base k G) (S : FnScope N ps sc) (hg : A.guards = some []) (hr : Room k (A.deeper (envOfC ql sc s.heap.objs.size f cd))) :
    CtxS (bx P w K mg base N ql sc f cd A ou s H E) (fun c d _ H => E c d H) k G where
  calm := rfl
  nd := S.nd
  tk := takes_of rfl rfl rfl rfl
  gd := hg
  room := hr
  fns := p.fns
  blt := p.blt
  gis := p.gis
  gss := p.gss
  exs := p.exs
  exp := p.exp
  cls := p.cls
  own := p.own
  gts := p.gts
  gds := p.gds
  kind := S.kind
  st := stores_fn
  passes := passes_of rfl
  ex0 := rfl
  stk := rfl
  frm := rfl
/-- the told slots at a body's start -/
def startD (n : Nat) (ds : List D) : Rho := ds.map some ++ List.replicate (n - ds.length) none
theorem start_rel {H : Hp} {ds : List D} {vs : List V} (r : RelDs K H ds vs) : RelS K H (startD N.length ds) (L2.start N vs) := by
  unfold startD L2.start
  rw [← r.len]
  refine ⟨by simp [r.len], fun i d e => ?_⟩
  by_cases hi : i < ds.length
  · rw [List.getElem?_append_left (by simpa using hi), List.getElem?_map] at e
    cases e1 : ds[i]? with
    | none => rw [e1] at e; cases e
    | some d' =>
      rw [e1] at e
      cases e
      obtain ⟨v, hv, rv⟩ := r.get' i d e1
      refine ⟨v, ?_, rv⟩
      rw [List.getElem?_append_left (by simp [r.len]; exact hi), List.getElem?_map, hv]
      rfl
  · rw [List.getElem?_append_right (by simpa using hi), List.getElem?_replicate] at e
    split at e <;> cases e
/-- a def by its syntax: its promise holds where the body's reading does -/
theorem def_ok (F : FunD K x ql pa bd sc dvs kws f fd) (Fs : FnScope N ps sc) (p : Pr P w K mg base k G) {e : S} (hc : chkSs (G.ck N) sc e bd = true) {sp : DSp} (hl : ∀ ds h xq Q, sp ds h xq Q → ds.length = ps.length)
    (hb : ∀ ds h xq Q, sp ds h xq Q → rdS G.sps e { nx := fun _ h' => Q .non h', rt := Q, xq := fun _ => xq } (startD N.length ds) h) : FnG P w K mg base (k + 1) f fd ps (liftSp K sp) := by
  refine fnG_of F Fs (fun vs H Q E ⟨ds, h, X0, Q0, r, _, q, _⟩ => ?_) fun cd A ou s H vs Q E hg hr ⟨ds, h, X0, Q0, r, rh, q, o, ox⟩ => ?_
  · rw [r.len]
    exact hl _ _ _ _ q
  · refine ⟨_, snd_Ss e (ctx_fn p Fs hg hr) hc, startD N.length ds, h, _, start_rel r, rh, hb _ _ _ _ q, ⟨?_, ?_, ?_, ?_, ?_⟩⟩
    · exact fun ρ' h' σ' H' z _ r2 fr => o _ _ _ _ z (by simp only [RelD]) r2 fr
    · exact fun d h' v H' z r1 r2 fr => o _ _ _ _ z r1 r2 fr
    · exact fun _ _ _ _ z => z.elim
    · exact fun _ _ _ _ z => z.elim
    · exact fun ρ' y h' σ' c dd H' z _ r1 r2 fr => ox _ _ _ _ _ z r1 r2 fr
end

/-! ### the law's end -/
/-- only the script is tracked, and it is only read -/
theorem law_end {P : Program} {w : World} {K : PySem.W.Frag} {mg mb : Str → Option Value} {k : Nat} {fa a : Addr} {fd : FuncData} {x : Str} {sp : DSp} {s₁ : Shared} {vs : List Value} {ns : List Int}
    (inK : K.In s₁.heap) (nsg : s₁.heap.Ns mainGlobals mg) (nsb : s₁.heap.Ns builtinsNs mb) (bb : ∀ y : Str, y ≠ "__name__" → mb y = bootBuiltins y) (nl : s₁.heap.NoLimit) (gn : s₁.gens = #[])
    (at_a : s₁.heap.get? a = some { cls := .type "list", data := .seq vs.toArray }) (are : IntsAre vs ns) (small : ns.length ≤ sizeLine) (room : Room k callerA)
    (F : ∀ base : Heap, K.In base → base.Ns mainGlobals mg → FnG P w K mg base k fa fd [x] (liftSp K sp)) (bind : ∀ (s : Shared) (u : Value), BindsTo s fd ⟨[u], []⟩ [(x, u)])
    (law : sp [.rol (ns.map D.int)] (fun _ => none) noX fun d _ => d = .bl true) :
    codeAny (model P w) callerA (.call (.ref fa) ⟨[.ref a], []⟩) (fun r s' => r = .ok (.ret (.bool true)) ∧ OldK s₁.heap s'.heap ∧ s'.os = s₁.os ∧ AllBare s'.gens) s₁ := by
  have rv := vals_ints are
  have nv := are.length
  have rels : ∀ (H : Hp) (l : List Int), RelDs K H (l.map D.int) (l.map V.int) := fun H l => by
    induction l with
    | nil => exact .nil
    | cons i l ih => exact .cons (by simp only [RelD]) ih
  suffices main : ∀ H : Hp, Only H → FzL K H a (ns.map V.int) → HOk P w H s₁.heap → (∀ b, H b ≠ none → b = a) → (H a ≠ none → K.lookup a = none) →
      codeAny (model P w) callerA (.call (.ref fa) ⟨[.ref a], []⟩) (fun r s' => r = .ok (.ret (.bool true)) ∧ OldK s₁.heap s'.heap ∧ s'.os = s₁.os ∧ AllBare s'.gens) s₁ by
    cases ek : K.lookup a with
    | some o =>
      have z := (inK a o ek).symm.trans at_a
      cases z
      exact main (fun _ => none) (fun _ => .inl rfl) (.inr ⟨vs, _, ek, by rw [nv]; exact small, rv⟩) (fun b u z => nomatch (show (none : Option HO) = some u from z)) (fun b z => absurd rfl z) (fun z => absurd rfl z)
    | none =>
      let H : Hp := fun b => if b = a then some (.frz { cls := .type "list", data := .seq vs.toArray } (.lst (ns.map V.int))) else none
      have ha : H a = some (.frz { cls := .type "list", data := .seq vs.toArray } (.lst (ns.map V.int))) := if_pos rfl
      have hn : ∀ b, b ≠ a → H b = none := fun b z => if_neg z
      refine main H (fun b => ?_) (.inl ⟨_, ha⟩) (fun b u z => ?_) (fun b z => Classical.byContradiction fun q => z (hn b q)) fun _ => ek
      · by_cases q : b = a
        · subst q; exact .inr ⟨_, _, ha⟩
        · exact .inl (hn b q)
      · by_cases q : b = a
        · subst q
          cases ha.symm.trans z
          exact ⟨at_a, by rw [List.length_map]; exact small, vs, _, rv, at_a⟩
        · cases (hn b q).symm.trans z
  intro H only script hok one noK
  have plain : ∀ {b : Addr} {o : Obj}, s₁.heap.get? b = some o → (b = a → H b = none) → H b = none := fun {b o} e z => Classical.byContradiction fun q => q (z (one b q))
  have dictN : ∀ {b : Addr} {o : Obj} {es : Array DictEntry} {ep : Nat}, s₁.heap.get? b = some o → o.data = .dict es ep → H b = none := fun {b o es ep} e d => plain e fun z => by
    subst z
    cases e.symm.trans at_a
    exact nomatch (show Data.seq vs.toArray _ = Data.dict es ep from d)
  have hid : ∀ {b : Addr} {m : Str → Option Value}, s₁.heap.Ns b m → (hidT s₁.heap H).Ns b m := fun {b m} ⟨o, es, ep, e, d, r⟩ => ⟨o, es, ep, hidT_get e (dictN e d), d, r⟩
  have inB : K.In (hidT s₁.heap H) := fun b o e => hidT_get (inK b o e) (plain (inK b o e) fun z => Classical.byContradiction fun q => by
    subst z
    rw [noK q] at e
    cases e)
  have md : Mod K mg (hidT s₁.heap H) := ⟨inB, hid nsg, ⟨mb, hid nsb, bb⟩, let ⟨mc, n1, n2⟩ := nl; ⟨mc, hid n1, n2⟩⟩
  have env : Env0 P w K mg (hidT s₁.heap H) callerA [] s₁ H := ⟨rfl, md, fun b o e => of_hidT e, Nat.le_of_eq (hidT_size _ _), trivial, (fun b z => absurd (show b ∈ ([] : List Addr) from z) List.not_mem_nil), hok, .of_eq gn⟩
  have told : liftSp K sp [.ref a] H (fun v _ => v = .bl true) fun _ _ _ => False := by
    refine ⟨[.rol (ns.map D.int)], fun _ => none, noX, _, .one ?_, (fun b o z => by cases z), law, fun d h' v H' q r _ _ => ?_, fun x0 h2 cls dd H2 z => False.elim z⟩
    · simp only [RelD]
      exact ⟨a, _, rfl, script, rels H ns⟩
    · subst q
      simpa only [RelD] using r
  refine codeAny_mono ((F _ inB (hid nsg)).go callerA [] s₁ H _ [.ref a] [.ref a] _ _ rfl room env (bind s₁ (.ref a)) (.cons rfl .nil) told) fun r s2 q => ?_
  match r, q with
  | .ok (.ret u), ⟨v, H2, os, bare, un, hok2, r2, qv⟩ =>
    have qv : v = .bl true := qv
    subst qv
    obtain rfl : u = Value.bool true := r2
    refine ⟨rfl, OldK.of_keep fun b o e => ?_, os, bare⟩
    rcases only b with z | ⟨ob, xs, z⟩
    · exact un.keep b o e z (fun y => absurd (show b ∈ ([] : List Addr) from y) List.not_mem_nil) List.not_mem_nil
    · have z2 := un.frzs b ob _ z
      cases e.symm.trans (hok b _ z).1
      exact (hok2 b _ z2).1
  | .error e, q =>
    obtain ⟨_, _, _, _, _, _, _, _, _, _, _, _, z⟩ := q
    exact z.elim
/-- a law's end, as the head asks it -/
theorem law_ends {l : PySem.W.OpenLaw} {n k : Nat} {q : Program} {loose : List Str} {XP : (Str → Option Value) → Heap → Prop} {YP : World → Heap → Prop} {d : DefRec} {x : Str} (hn : l.most = some n) (hn2 : n ≤ sizeLine) (hdf : d.params.defaults = []) (room : Room k callerA)
    (F : ∀ (w : World) (mg : Str → Option Value) (fa : Addr) (h : Heap), YP w h → h.Ns mainGlobals mg → mg d.name = some (.ref fa) → ∃ (K : PySem.W.Frag) (fd : FuncData) (sp : DSp), K.In h ∧ (∀ (s : Shared) (u : Value), BindsTo s fd ⟨[u], []⟩ [(x, u)]) ∧
        (∀ ns : List Int, ns.length ≤ n → sp [.rol (ns.map D.int)] (fun _ => none) noX fun d _ => d = .bl true) ∧ ∀ base : Heap, K.In base → base.Ns mainGlobals mg → FnG l.prog w K mg base k fa fd [x] (liftSp K sp)) :
    PySem.W.WalkO q loose XP YP l.row.toRowW d [] (fun f vs => PySem.call f vs) := by
  refine Att.attach_call hn hdf fun w s₀ s₁ mg mb fa o pm cd doc a vs ns Gd Y ho hd hcd hmg hobj hints hlen hg => ?_
  obtain ⟨K, fd, sp, inK, hb, hsp, hF⟩ := F w mg fa _ Y Gd.T.g hmg
  exact law_end inK Gd.T.g Gd.T.b Gd.T.builtins Gd.T.nolimit hg hobj hints (Nat.le_trans hlen hn2) room hF hb (hsp ns hlen)
end Lit
/-! Readings, row by row, and the loops by a word that stays. -/
namespace Lit
open PySem PySem.Spec PyProof.Rows L2
section
variable {sps : List DSp} {ρ : Rho} {h : PH} {xq : XQ} {Q : D → PH → Prop} {R : Bool → PH → Prop} {A : List D → PH → Prop} {I : List D → (PH → Prop) → PH → Prop} {Z : DEnds}
@[simp] theorem rdE_var {i : Nat} : rdE sps (.var i) ρ h xq Q = (match ρ[i]? with | some (some d) => Q d h | _ => False) := by rw [rdE] <;> rfl
@[simp] theorem rdE_int {i : Int} : rdE sps (.int i) ρ h xq Q = (Q (.int i) h) := by rw [rdE] <;> rfl
@[simp] theorem rdE_bl {b : Bool} : rdE sps (.bl b) ρ h xq Q = (Q (.bl b) h) := by rw [rdE] <;> rfl
@[simp] theorem rdE_str {s : List Nat} : rdE sps (.str s) ρ h xq Q = (Q (.str s) h) := by rw [rdE] <;> rfl
@[simp] theorem rdE_non  : rdE sps (.non) ρ h xq Q = (Q .non h) := by rw [rdE] <;> rfl
@[simp] theorem rdE_gint {x : Str} {i : Int} : rdE sps (.gint x i) ρ h xq Q = (Q (.int i) h) := by rw [rdE] <;> rfl
@[simp] theorem rdE_gstr {x : Str} {s : List Nat} : rdE sps (.gstr x s) ρ h xq Q = (Q (.str s) h) := by rw [rdE] <;> rfl
@[simp] theorem rdE_frz {a : E} : rdE sps (.frz a) ρ h xq Q = (rdE sps a ρ h xq (frzK Q)) := by rw [rdE] <;> rfl
@[simp] theorem rdE_fgt {a : E} : rdE sps (.fgt a) ρ h xq Q = (rdE sps a ρ h (fgtX xq) fun d h1 => ∃ h2, Ext h2 h1 ∧ Q d h2) := by rw [rdE] <;> rfl
@[simp] theorem rdE_isx {a : E} {t : Str} {ks : List Str} : rdE sps (.isx a t ks) ρ h xq Q = (rdE sps a ρ h xq fun x h1 => match x with | .ref p => (match h1 p with | some (.exc c _) => c ∈ ks ∧ Q (.bl (subE c t)) h1 | _ => False) | _ => False) := by rw [rdE] <;> rfl
@[simp] theorem rdE_xfld {a : E} {f : Str} {ks : List Str} : rdE sps (.xfld a f ks) ρ h xq Q = (rdE sps a ρ h xq fun x h1 => match x with | .ref p => (match h1 p with | some (.exc c fs) => c ∈ ks ∧ (match fs.lookup f with | some d => Q d h1 | none => False) | _ => False) | _ => False) := by rw [rdE] <;> rfl
@[simp] theorem rdE_op {fz : Bool} {o : BOp} {a b : E} : rdE sps (.op fz o a b) ρ h xq Q = (rdE sps a ρ h xq fun x h1 => rdE sps b ρ h1 xq fun y h2 => binD fz o x y h2 Q) := by rw [rdE] <;> rfl
@[simp] theorem rdE_neg {a : E} : rdE sps (.neg a) ρ h xq Q = (rdE sps a ρ h xq fun x h1 => match x with | .int i => Q (.int (-i)) h1 | _ => False) := by rw [rdE] <;> rfl
@[simp] theorem rdE_cmp {o : COp} {a b : E} : rdE sps (.cmp o a b) ρ h xq Q = (rdE sps a ρ h xq fun x h1 => rdE sps b ρ h1 xq fun y h2 => cmpD o x y h2 fun k => Q (.bl k) h2) := by rw [rdE] <;> rfl
@[simp] theorem rdE_chain {o o' : COp} {a b c : E} : rdE sps (.chain o o' a b c) ρ h xq Q = (rdE sps a ρ h xq fun x h1 => rdE sps b ρ h1 xq fun y h2 => cmpD o x y h2 fun k => match k with | true => rdE sps c ρ h2 xq fun z h3 => cmpD o' y z h3 fun k => Q (.bl k) h3 | false => Q (.bl false) h2) := by rw [rdE] <;> rfl
@[simp] theorem rdE_land {es : E} : rdE sps (.land es) ρ h xq Q = (rdAnd sps es ρ h xq Q) := by rw [rdE] <;> rfl
@[simp] theorem rdE_lor {es : E} : rdE sps (.lor es) ρ h xq Q = (rdOr sps es ρ h xq Q) := by rw [rdE] <;> rfl
@[simp] theorem rdE_lnot {a : E} : rdE sps (.lnot a) ρ h xq Q = (rdE sps a ρ h xq fun x h1 => truQ h1 x fun b => Q (.bl (!b)) h1) := by rw [rdE] <;> rfl
@[simp] theorem rdE_ife {t a b : E} : rdE sps (.ife t a b) ρ h xq Q = (rdT_ sps t ρ h xq fun k h1 => match k with | true => rdE sps a ρ h1 xq Q | false => rdE sps b ρ h1 xq Q) := by rw [rdE] <;> rfl
@[simp] theorem rdE_tup {es : E} : rdE sps (.tup es) ρ h xq Q = (rdA sps es ρ h xq fun ds h1 => ds.length ≤ sizeLine ∧ Q (.tup ds) h1) := by rw [rdE] <;> rfl
@[simp] theorem rdE_lst {fz : Bool} {es : E} : rdE sps (.lst fz es) ρ h xq Q = (rdA sps es ρ h xq fun ds h1 => ds.length ≤ sizeLine ∧ newL fz ds h1 Q) := by rw [rdE] <;> rfl
@[simp] theorem rdE_dic {es : E} : rdE sps (.dic es) ρ h xq Q = (rdA sps es ρ h xq fun ds h1 => match kvPairs ds with | some kvs => kvs.length ≤ 15 ∧ alloc (.dct (mergeD [] kvs)) h1 Q | none => False) := by rw [rdE] <;> rfl
@[simp] theorem rdE_ix {a i : E} : rdE sps (.ix a i) ρ h xq Q = (rdE sps a ρ h xq fun x h1 => rdE sps i ρ h1 xq fun y h2 => ixD x y h2 Q) := by rw [rdE] <;> rfl
@[simp] theorem rdE_sl {fz : Bool} {a lo hi : E} : rdE sps (.sl fz a lo hi) ρ h xq Q = (rdE sps a ρ h xq fun x h1 => rdO sps lo ρ h1 xq fun l h2 => rdO sps hi ρ h2 xq fun u h3 => slD fz x l u h3 Q) := by rw [rdE] <;> rfl
@[simp] theorem rdE_rev {fz : Bool} {a : E} : rdE sps (.rev fz a) ρ h xq Q = (rdE sps a ρ h xq fun x h1 => match rdL h1 x with | some ds => newL fz ds.reverse h1 Q | none => False) := by rw [rdE] <;> rfl
@[simp] theorem rdE_b1 {f : B1} {a : E} : rdE sps (.b1 f a) ρ h xq Q = (rdE sps a ρ h xq fun x h1 => b1D f x h1 Q) := by rw [rdE] <;> rfl
@[simp] theorem rdE_b2 {f : B2} {a b : E} : rdE sps (.b2 f a b) ρ h xq Q = (rdE sps a ρ h xq fun x h1 => rdE sps b ρ h1 xq fun y h2 => b2D f x y h2 Q) := by rw [rdE] <;> rfl
@[simp] theorem rdE_isi {a : E} {t : Ty} : rdE sps (.isi a t) ρ h xq Q = (rdE sps a ρ h xq fun x h1 => isData x h1 = true ∧ isiD t x h1 fun k => Q (.bl k) h1) := by rw [rdE] <;> rfl
@[simp] theorem rdE_mth {m : Mth} {o es : E} : rdE sps (.mth m o es) ρ h xq Q = (rdE sps o ρ h xq fun x h1 => tyB m x h1 = true ∧ rdA sps es ρ h1 xq fun ds h2 => mthD m x ds h2 Q) := by rw [rdE] <;> rfl
@[simp] theorem rdE_call {i : Nat} {es : E} : rdE sps (.call i es) ρ h xq Q = (rdA sps es ρ h xq fun ds h1 => spAt sps i ds h1 xq Q) := by rw [rdE] <;> rfl
@[simp] theorem rdE_meth {i : Nat} {cn m : Str} {o es : E} : rdE sps (.meth i cn m o es) ρ h xq Q = (rdE sps o ρ h xq fun x h1 => match x with | .ref a => (match h1 a with | some (.ins c fs) => c = cn ∧ fs.lookup m = none ∧ rdA sps es ρ h1 xq fun ds h2 => spAt sps i (.ref a :: ds) h2 xq Q | _ => False) | _ => False) := by rw [rdE] <;> rfl
@[simp] theorem rdE_make {i : Nat} {cn : Str} {es : E} : rdE sps (.make i cn es) ρ h xq Q = (rdA sps es ρ h xq fun ds h1 => ∀ (p : Addr) (h2 : PH), h1 p = none → h2 p = some (.ins cn []) → Ext h1 h2 → spAt sps i (.ref p :: ds) h2 xq fun v h3 => v = .non ∧ Q (.ref p) h3) := by rw [rdE] <;> rfl
@[simp] theorem rdE_fld {o : E} {f : Str} {cs : List Str} : rdE sps (.fld o f cs) ρ h xq Q = (rdE sps o ρ h xq fun x h1 => match x with | .ref a => (match h1 a with | some (.ins c fs) => c ∈ cs ∧ (match fs.lookup f with | some d => Q d h1 | none => False) | _ => False) | _ => False) := by rw [rdE] <;> rfl
@[simp] theorem rdE_gtup {x : Str} {ss : List (List Nat)} : rdE sps (.gtup x ss) ρ h xq Q = (Q (.tup (ss.map D.str)) h) := by rw [rdE] <;> rfl
@[simp] theorem rdE_gdin {neg : Bool} {x : Str} {kvs : List (List Nat × List (List Nat))} {a : E} : rdE sps (.gdin neg x kvs a) ρ h xq Q = (rdE sps a ρ h xq fun x h1 => match x with | .str s => Q (.bl (neg != (kvs.lookup s).isSome)) h1 | _ => False) := by rw [rdE] <;> rfl
@[simp] theorem rdE_gdix {x : Str} {kvs : List (List Nat × List (List Nat))} {a : E} : rdE sps (.gdix x kvs a) ρ h xq Q = (rdE sps a ρ h xq fun x h1 => match x with | .str s => (match kvs.lookup s with | some ss => Q (.tup (ss.map D.str)) h1 | none => False) | _ => False) := by rw [rdE] <;> rfl
@[simp] theorem rdE_mkx0 {c : Str} : rdE sps (.mkx0 c) ρ h xq Q = (alloc (.exc c []) h Q) := by rw [rdE] <;> rfl
@[simp] theorem rdE_mkx {c : Str} {fs : List Str} {es : E} : rdE sps (.mkx c fs es) ρ h xq Q = (rdA sps es ρ h xq fun ds h1 => ds.length = fs.length ∧ alloc (.exc c (fs.zip ds).reverse) h1 Q) := by rw [rdE] <;> rfl
@[simp] theorem rdE_comp {fz : Bool} {it : E} {tg : Tg} {vs : List Nat} {cond elt : E} : rdE sps (.comp fz it tg vs cond elt) ρ h xq Q = (rdI sps it ρ h xq fun items stay h1 => compLoop tg vs (rdC sps cond) (rdE sps elt) stay ρ items [] h1 fun acc h2 => newL fz acc h2 Q) := by rw [rdE] <;> rfl
@[simp] theorem rdT_land {es : E} : rdT_ sps (.land es) ρ h xq R = (rdAndT sps es ρ h xq R) := by rw [rdT_] <;> rfl
@[simp] theorem rdT_lor {es : E} : rdT_ sps (.lor es) ρ h xq R = (rdOrT sps es ρ h xq R) := by rw [rdT_] <;> rfl
@[simp] theorem rdT_lnot {a : E} : rdT_ sps (.lnot a) ρ h xq R = (rdT_ sps a ρ h xq fun k h1 => R (!k) h1) := by rw [rdT_] <;> rfl
@[simp] theorem rdT_cmp {o : COp} {a b : E} : rdT_ sps (.cmp o a b) ρ h xq R = (rdE sps a ρ h xq fun x h1 => rdE sps b ρ h1 xq fun y h2 => cmpD o x y h2 fun k => R k h2) := by rw [rdT_] <;> rfl
@[simp] theorem rdT_chain {o o' : COp} {a b c : E} : rdT_ sps (.chain o o' a b c) ρ h xq R = (rdE sps a ρ h xq fun x h1 => rdE sps b ρ h1 xq fun y h2 => cmpD o x y h2 fun k => match k with | true => rdE sps c ρ h2 xq fun z h3 => cmpD o' y z h3 fun k => R k h3 | false => R false h2) := by rw [rdT_] <;> rfl
@[simp] theorem rdT_gdin {neg : Bool} {x : Str} {kvs : List (List Nat × List (List Nat))} {a : E} : rdT_ sps (.gdin neg x kvs a) ρ h xq R = (rdE sps a ρ h xq fun x h1 => match x with | .str s => R (neg != (kvs.lookup s).isSome) h1 | _ => False) := by rw [rdT_] <;> rfl
@[simp] theorem rdT_var {i : Nat} : rdT_ sps (.var i) ρ h xq R = (rdE sps (.var i) ρ h xq fun x h1 => truQ h1 x fun k => R k h1) := by simp only [rdT_] <;> rfl
@[simp] theorem rdT_int {i : Int} : rdT_ sps (.int i) ρ h xq R = (rdE sps (.int i) ρ h xq fun x h1 => truQ h1 x fun k => R k h1) := by simp only [rdT_] <;> rfl
@[simp] theorem rdT_bl {b : Bool} : rdT_ sps (.bl b) ρ h xq R = (rdE sps (.bl b) ρ h xq fun x h1 => truQ h1 x fun k => R k h1) := by simp only [rdT_] <;> rfl
@[simp] theorem rdT_str {s : List Nat} : rdT_ sps (.str s) ρ h xq R = (rdE sps (.str s) ρ h xq fun x h1 => truQ h1 x fun k => R k h1) := by simp only [rdT_] <;> rfl
@[simp] theorem rdT_non  : rdT_ sps (.non) ρ h xq R = (rdE sps (.non) ρ h xq fun x h1 => truQ h1 x fun k => R k h1) := by simp only [rdT_] <;> rfl
@[simp] theorem rdT_gint {x : Str} {i : Int} : rdT_ sps (.gint x i) ρ h xq R = (rdE sps (.gint x i) ρ h xq fun x h1 => truQ h1 x fun k => R k h1) := by simp only [rdT_] <;> rfl
@[simp] theorem rdT_gstr {x : Str} {s : List Nat} : rdT_ sps (.gstr x s) ρ h xq R = (rdE sps (.gstr x s) ρ h xq fun x h1 => truQ h1 x fun k => R k h1) := by simp only [rdT_] <;> rfl
@[simp] theorem rdT_frz {a : E} : rdT_ sps (.frz a) ρ h xq R = (rdE sps (.frz a) ρ h xq fun x h1 => truQ h1 x fun k => R k h1) := by simp only [rdT_] <;> rfl
@[simp] theorem rdT_fgt {a : E} : rdT_ sps (.fgt a) ρ h xq R = (rdE sps (.fgt a) ρ h xq fun x h1 => truQ h1 x fun k => R k h1) := by simp only [rdT_] <;> rfl
@[simp] theorem rdT_isx {a : E} {t : Str} {ks : List Str} : rdT_ sps (.isx a t ks) ρ h xq R = (rdE sps (.isx a t ks) ρ h xq fun x h1 => truQ h1 x fun k => R k h1) := by simp only [rdT_] <;> rfl
@[simp] theorem rdT_xfld {a : E} {f : Str} {ks : List Str} : rdT_ sps (.xfld a f ks) ρ h xq R = (rdE sps (.xfld a f ks) ρ h xq fun x h1 => truQ h1 x fun k => R k h1) := by simp only [rdT_] <;> rfl
@[simp] theorem rdT_op {fz : Bool} {o : BOp} {a b : E} : rdT_ sps (.op fz o a b) ρ h xq R = (rdE sps (.op fz o a b) ρ h xq fun x h1 => truQ h1 x fun k => R k h1) := by simp only [rdT_] <;> rfl
@[simp] theorem rdT_neg {a : E} : rdT_ sps (.neg a) ρ h xq R = (rdE sps (.neg a) ρ h xq fun x h1 => truQ h1 x fun k => R k h1) := by simp only [rdT_] <;> rfl
@[simp] theorem rdT_tup {es : E} : rdT_ sps (.tup es) ρ h xq R = (rdE sps (.tup es) ρ h xq fun x h1 => truQ h1 x fun k => R k h1) := by simp only [rdT_] <;> rfl
@[simp] theorem rdT_lst {fz : Bool} {es : E} : rdT_ sps (.lst fz es) ρ h xq R = (rdE sps (.lst fz es) ρ h xq fun x h1 => truQ h1 x fun k => R k h1) := by simp only [rdT_] <;> rfl
@[simp] theorem rdT_dic {es : E} : rdT_ sps (.dic es) ρ h xq R = (rdE sps (.dic es) ρ h xq fun x h1 => truQ h1 x fun k => R k h1) := by simp only [rdT_] <;> rfl
@[simp] theorem rdT_ix {a i : E} : rdT_ sps (.ix a i) ρ h xq R = (rdE sps (.ix a i) ρ h xq fun x h1 => truQ h1 x fun k => R k h1) := by simp only [rdT_] <;> rfl
@[simp] theorem rdT_sl {fz : Bool} {a lo hi : E} : rdT_ sps (.sl fz a lo hi) ρ h xq R = (rdE sps (.sl fz a lo hi) ρ h xq fun x h1 => truQ h1 x fun k => R k h1) := by simp only [rdT_] <;> rfl
@[simp] theorem rdT_rev {fz : Bool} {a : E} : rdT_ sps (.rev fz a) ρ h xq R = (rdE sps (.rev fz a) ρ h xq fun x h1 => truQ h1 x fun k => R k h1) := by simp only [rdT_] <;> rfl
@[simp] theorem rdT_b1 {f : B1} {a : E} : rdT_ sps (.b1 f a) ρ h xq R = (rdE sps (.b1 f a) ρ h xq fun x h1 => truQ h1 x fun k => R k h1) := by simp only [rdT_] <;> rfl
@[simp] theorem rdT_b2 {f : B2} {a b : E} : rdT_ sps (.b2 f a b) ρ h xq R = (rdE sps (.b2 f a b) ρ h xq fun x h1 => truQ h1 x fun k => R k h1) := by simp only [rdT_] <;> rfl
@[simp] theorem rdT_isi {a : E} {t : Ty} : rdT_ sps (.isi a t) ρ h xq R = (rdE sps (.isi a t) ρ h xq fun x h1 => truQ h1 x fun k => R k h1) := by simp only [rdT_] <;> rfl
@[simp] theorem rdT_mth {m : Mth} {o es : E} : rdT_ sps (.mth m o es) ρ h xq R = (rdE sps (.mth m o es) ρ h xq fun x h1 => truQ h1 x fun k => R k h1) := by simp only [rdT_] <;> rfl
@[simp] theorem rdT_call {i : Nat} {es : E} : rdT_ sps (.call i es) ρ h xq R = (rdE sps (.call i es) ρ h xq fun x h1 => truQ h1 x fun k => R k h1) := by simp only [rdT_] <;> rfl
@[simp] theorem rdT_meth {i : Nat} {cn m : Str} {o es : E} : rdT_ sps (.meth i cn m o es) ρ h xq R = (rdE sps (.meth i cn m o es) ρ h xq fun x h1 => truQ h1 x fun k => R k h1) := by simp only [rdT_] <;> rfl
@[simp] theorem rdT_make {i : Nat} {cn : Str} {es : E} : rdT_ sps (.make i cn es) ρ h xq R = (rdE sps (.make i cn es) ρ h xq fun x h1 => truQ h1 x fun k => R k h1) := by simp only [rdT_] <;> rfl
@[simp] theorem rdT_fld {o : E} {f : Str} {cs : List Str} : rdT_ sps (.fld o f cs) ρ h xq R = (rdE sps (.fld o f cs) ρ h xq fun x h1 => truQ h1 x fun k => R k h1) := by simp only [rdT_] <;> rfl
@[simp] theorem rdT_gtup {x : Str} {ss : List (List Nat)} : rdT_ sps (.gtup x ss) ρ h xq R = (rdE sps (.gtup x ss) ρ h xq fun x h1 => truQ h1 x fun k => R k h1) := by simp only [rdT_] <;> rfl
@[simp] theorem rdT_gdix {x : Str} {kvs : List (List Nat × List (List Nat))} {a : E} : rdT_ sps (.gdix x kvs a) ρ h xq R = (rdE sps (.gdix x kvs a) ρ h xq fun x h1 => truQ h1 x fun k => R k h1) := by simp only [rdT_] <;> rfl
@[simp] theorem rdT_mkx0 {c : Str} : rdT_ sps (.mkx0 c) ρ h xq R = (rdE sps (.mkx0 c) ρ h xq fun x h1 => truQ h1 x fun k => R k h1) := by simp only [rdT_] <;> rfl
@[simp] theorem rdT_mkx {c : Str} {fs : List Str} {es : E} : rdT_ sps (.mkx c fs es) ρ h xq R = (rdE sps (.mkx c fs es) ρ h xq fun x h1 => truQ h1 x fun k => R k h1) := by simp only [rdT_] <;> rfl
@[simp] theorem rdT_comp {fz : Bool} {it : E} {tg : Tg} {vs : List Nat} {cond elt : E} : rdT_ sps (.comp fz it tg vs cond elt) ρ h xq R = (rdE sps (.comp fz it tg vs cond elt) ρ h xq fun x h1 => truQ h1 x fun k => R k h1) := by simp only [rdT_] <;> rfl
@[simp] theorem rdAnd_one {a : E} : rdAnd sps (.cons a .nil) ρ h xq Q = rdE sps a ρ h xq Q := by rw [rdAnd]
@[simp] theorem rdAnd_cons {a b r : E} : rdAnd sps (.cons a (.cons b r)) ρ h xq Q = (rdE sps a ρ h xq fun x h1 => truQ h1 x fun k => match k with | true => rdAnd sps (.cons b r) ρ h1 xq Q | false => Q x h1) := by simp only [rdAnd] <;> rfl
@[simp] theorem rdOr_one {a : E} : rdOr sps (.cons a .nil) ρ h xq Q = rdE sps a ρ h xq Q := by rw [rdOr]
@[simp] theorem rdOr_cons {a b r : E} : rdOr sps (.cons a (.cons b r)) ρ h xq Q = (rdE sps a ρ h xq fun x h1 => truQ h1 x fun k => match k with | true => Q x h1 | false => rdOr sps (.cons b r) ρ h1 xq Q) := by simp only [rdOr] <;> rfl
@[simp] theorem rdAndT_one {a : E} : rdAndT sps (.cons a .nil) ρ h xq R = rdT_ sps a ρ h xq R := by rw [rdAndT]
@[simp] theorem rdAndT_cons {a b r : E} : rdAndT sps (.cons a (.cons b r)) ρ h xq R = (rdT_ sps a ρ h xq fun k h1 => match k with | true => rdAndT sps (.cons b r) ρ h1 xq R | false => R false h1) := by simp only [rdAndT] <;> rfl
@[simp] theorem rdOrT_one {a : E} : rdOrT sps (.cons a .nil) ρ h xq R = rdT_ sps a ρ h xq R := by rw [rdOrT]
@[simp] theorem rdOrT_cons {a b r : E} : rdOrT sps (.cons a (.cons b r)) ρ h xq R = (rdT_ sps a ρ h xq fun k h1 => match k with | true => R true h1 | false => rdOrT sps (.cons b r) ρ h1 xq R) := by simp only [rdOrT] <;> rfl
@[simp] theorem rdA_nil : rdA sps .nil ρ h xq A = A [] h := by rw [rdA]
@[simp] theorem rdA_cons {a r : E} : rdA sps (.cons a r) ρ h xq A = (rdE sps a ρ h xq fun x h1 => rdA sps r ρ h1 xq fun xs h2 => A (x :: xs) h2) := by rw [rdA]
@[simp] theorem rdO_nil {O : Option Int → PH → Prop} : rdO sps .nil ρ h xq O = O none h := by rw [rdO]
@[simp] theorem rdO_var {i : Nat} {O : Option Int → PH → Prop} : rdO sps (.var i) ρ h xq O = (rdE sps (.var i) ρ h xq fun x h1 => match x with | .int i => O (some i) h1 | _ => False) := by simp only [rdO] <;> rfl
@[simp] theorem rdO_int {i : Int} {O : Option Int → PH → Prop} : rdO sps (.int i) ρ h xq O = (rdE sps (.int i) ρ h xq fun x h1 => match x with | .int i => O (some i) h1 | _ => False) := by simp only [rdO] <;> rfl
@[simp] theorem rdO_bl {b : Bool} {O : Option Int → PH → Prop} : rdO sps (.bl b) ρ h xq O = (rdE sps (.bl b) ρ h xq fun x h1 => match x with | .int i => O (some i) h1 | _ => False) := by simp only [rdO] <;> rfl
@[simp] theorem rdO_str {s : List Nat} {O : Option Int → PH → Prop} : rdO sps (.str s) ρ h xq O = (rdE sps (.str s) ρ h xq fun x h1 => match x with | .int i => O (some i) h1 | _ => False) := by simp only [rdO] <;> rfl
@[simp] theorem rdO_non  {O : Option Int → PH → Prop} : rdO sps (.non) ρ h xq O = (rdE sps (.non) ρ h xq fun x h1 => match x with | .int i => O (some i) h1 | _ => False) := by simp only [rdO] <;> rfl
@[simp] theorem rdO_gint {x : Str} {i : Int} {O : Option Int → PH → Prop} : rdO sps (.gint x i) ρ h xq O = (rdE sps (.gint x i) ρ h xq fun x h1 => match x with | .int i => O (some i) h1 | _ => False) := by simp only [rdO] <;> rfl
@[simp] theorem rdO_gstr {x : Str} {s : List Nat} {O : Option Int → PH → Prop} : rdO sps (.gstr x s) ρ h xq O = (rdE sps (.gstr x s) ρ h xq fun x h1 => match x with | .int i => O (some i) h1 | _ => False) := by simp only [rdO] <;> rfl
@[simp] theorem rdO_frz {a : E} {O : Option Int → PH → Prop} : rdO sps (.frz a) ρ h xq O = (rdE sps (.frz a) ρ h xq fun x h1 => match x with | .int i => O (some i) h1 | _ => False) := by simp only [rdO] <;> rfl
@[simp] theorem rdO_fgt {a : E} {O : Option Int → PH → Prop} : rdO sps (.fgt a) ρ h xq O = (rdE sps (.fgt a) ρ h xq fun x h1 => match x with | .int i => O (some i) h1 | _ => False) := by simp only [rdO] <;> rfl
@[simp] theorem rdO_isx {a : E} {t : Str} {ks : List Str} {O : Option Int → PH → Prop} : rdO sps (.isx a t ks) ρ h xq O = (rdE sps (.isx a t ks) ρ h xq fun x h1 => match x with | .int i => O (some i) h1 | _ => False) := by simp only [rdO] <;> rfl
@[simp] theorem rdO_xfld {a : E} {f : Str} {ks : List Str} {O : Option Int → PH → Prop} : rdO sps (.xfld a f ks) ρ h xq O = (rdE sps (.xfld a f ks) ρ h xq fun x h1 => match x with | .int i => O (some i) h1 | _ => False) := by simp only [rdO] <;> rfl
@[simp] theorem rdO_op {fz : Bool} {o : BOp} {a b : E} {O : Option Int → PH → Prop} : rdO sps (.op fz o a b) ρ h xq O = (rdE sps (.op fz o a b) ρ h xq fun x h1 => match x with | .int i => O (some i) h1 | _ => False) := by simp only [rdO] <;> rfl
@[simp] theorem rdO_neg {a : E} {O : Option Int → PH → Prop} : rdO sps (.neg a) ρ h xq O = (rdE sps (.neg a) ρ h xq fun x h1 => match x with | .int i => O (some i) h1 | _ => False) := by simp only [rdO] <;> rfl
@[simp] theorem rdO_cmp {o : COp} {a b : E} {O : Option Int → PH → Prop} : rdO sps (.cmp o a b) ρ h xq O = (rdE sps (.cmp o a b) ρ h xq fun x h1 => match x with | .int i => O (some i) h1 | _ => False) := by simp only [rdO] <;> rfl
@[simp] theorem rdO_chain {o o' : COp} {a b c : E} {O : Option Int → PH → Prop} : rdO sps (.chain o o' a b c) ρ h xq O = (rdE sps (.chain o o' a b c) ρ h xq fun x h1 => match x with | .int i => O (some i) h1 | _ => False) := by simp only [rdO] <;> rfl
@[simp] theorem rdO_land {es : E} {O : Option Int → PH → Prop} : rdO sps (.land es) ρ h xq O = (rdE sps (.land es) ρ h xq fun x h1 => match x with | .int i => O (some i) h1 | _ => False) := by simp only [rdO] <;> rfl
@[simp] theorem rdO_lor {es : E} {O : Option Int → PH → Prop} : rdO sps (.lor es) ρ h xq O = (rdE sps (.lor es) ρ h xq fun x h1 => match x with | .int i => O (some i) h1 | _ => False) := by simp only [rdO] <;> rfl
@[simp] theorem rdO_lnot {a : E} {O : Option Int → PH → Prop} : rdO sps (.lnot a) ρ h xq O = (rdE sps (.lnot a) ρ h xq fun x h1 => match x with | .int i => O (some i) h1 | _ => False) := by simp only [rdO] <;> rfl
@[simp] theorem rdO_ife {t a b : E} {O : Option Int → PH → Prop} : rdO sps (.ife t a b) ρ h xq O = (rdE sps (.ife t a b) ρ h xq fun x h1 => match x with | .int i => O (some i) h1 | _ => False) := by simp only [rdO] <;> rfl
@[simp] theorem rdO_tup {es : E} {O : Option Int → PH → Prop} : rdO sps (.tup es) ρ h xq O = (rdE sps (.tup es) ρ h xq fun x h1 => match x with | .int i => O (some i) h1 | _ => False) := by simp only [rdO] <;> rfl
@[simp] theorem rdO_lst {fz : Bool} {es : E} {O : Option Int → PH → Prop} : rdO sps (.lst fz es) ρ h xq O = (rdE sps (.lst fz es) ρ h xq fun x h1 => match x with | .int i => O (some i) h1 | _ => False) := by simp only [rdO] <;> rfl
@[simp] theorem rdO_dic {es : E} {O : Option Int → PH → Prop} : rdO sps (.dic es) ρ h xq O = (rdE sps (.dic es) ρ h xq fun x h1 => match x with | .int i => O (some i) h1 | _ => False) := by simp only [rdO] <;> rfl
@[simp] theorem rdO_ix {a i : E} {O : Option Int → PH → Prop} : rdO sps (.ix a i) ρ h xq O = (rdE sps (.ix a i) ρ h xq fun x h1 => match x with | .int i => O (some i) h1 | _ => False) := by simp only [rdO] <;> rfl
@[simp] theorem rdO_sl {fz : Bool} {a lo hi : E} {O : Option Int → PH → Prop} : rdO sps (.sl fz a lo hi) ρ h xq O = (rdE sps (.sl fz a lo hi) ρ h xq fun x h1 => match x with | .int i => O (some i) h1 | _ => False) := by simp only [rdO] <;> rfl
@[simp] theorem rdO_rev {fz : Bool} {a : E} {O : Option Int → PH → Prop} : rdO sps (.rev fz a) ρ h xq O = (rdE sps (.rev fz a) ρ h xq fun x h1 => match x with | .int i => O (some i) h1 | _ => False) := by simp only [rdO] <;> rfl
@[simp] theorem rdO_b1 {f : B1} {a : E} {O : Option Int → PH → Prop} : rdO sps (.b1 f a) ρ h xq O = (rdE sps (.b1 f a) ρ h xq fun x h1 => match x with | .int i => O (some i) h1 | _ => False) := by simp only [rdO] <;> rfl
@[simp] theorem rdO_b2 {f : B2} {a b : E} {O : Option Int → PH → Prop} : rdO sps (.b2 f a b) ρ h xq O = (rdE sps (.b2 f a b) ρ h xq fun x h1 => match x with | .int i => O (some i) h1 | _ => False) := by simp only [rdO] <;> rfl
@[simp] theorem rdO_isi {a : E} {t : Ty} {O : Option Int → PH → Prop} : rdO sps (.isi a t) ρ h xq O = (rdE sps (.isi a t) ρ h xq fun x h1 => match x with | .int i => O (some i) h1 | _ => False) := by simp only [rdO] <;> rfl
@[simp] theorem rdO_mth {m : Mth} {o es : E} {O : Option Int → PH → Prop} : rdO sps (.mth m o es) ρ h xq O = (rdE sps (.mth m o es) ρ h xq fun x h1 => match x with | .int i => O (some i) h1 | _ => False) := by simp only [rdO] <;> rfl
@[simp] theorem rdO_call {i : Nat} {es : E} {O : Option Int → PH → Prop} : rdO sps (.call i es) ρ h xq O = (rdE sps (.call i es) ρ h xq fun x h1 => match x with | .int i => O (some i) h1 | _ => False) := by simp only [rdO] <;> rfl
@[simp] theorem rdO_meth {i : Nat} {cn m : Str} {o es : E} {O : Option Int → PH → Prop} : rdO sps (.meth i cn m o es) ρ h xq O = (rdE sps (.meth i cn m o es) ρ h xq fun x h1 => match x with | .int i => O (some i) h1 | _ => False) := by simp only [rdO] <;> rfl
@[simp] theorem rdO_make {i : Nat} {cn : Str} {es : E} {O : Option Int → PH → Prop} : rdO sps (.make i cn es) ρ h xq O = (rdE sps (.make i cn es) ρ h xq fun x h1 => match x with | .int i => O (some i) h1 | _ => False) := by simp only [rdO] <;> rfl
@[simp] theorem rdO_fld {o : E} {f : Str} {cs : List Str} {O : Option Int → PH → Prop} : rdO sps (.fld o f cs) ρ h xq O = (rdE sps (.fld o f cs) ρ h xq fun x h1 => match x with | .int i => O (some i) h1 | _ => False) := by simp only [rdO] <;> rfl
@[simp] theorem rdO_gtup {x : Str} {ss : List (List Nat)} {O : Option Int → PH → Prop} : rdO sps (.gtup x ss) ρ h xq O = (rdE sps (.gtup x ss) ρ h xq fun x h1 => match x with | .int i => O (some i) h1 | _ => False) := by simp only [rdO] <;> rfl
@[simp] theorem rdO_gdin {neg : Bool} {x : Str} {kvs : List (List Nat × List (List Nat))} {a : E} {O : Option Int → PH → Prop} : rdO sps (.gdin neg x kvs a) ρ h xq O = (rdE sps (.gdin neg x kvs a) ρ h xq fun x h1 => match x with | .int i => O (some i) h1 | _ => False) := by simp only [rdO] <;> rfl
@[simp] theorem rdO_gdix {x : Str} {kvs : List (List Nat × List (List Nat))} {a : E} {O : Option Int → PH → Prop} : rdO sps (.gdix x kvs a) ρ h xq O = (rdE sps (.gdix x kvs a) ρ h xq fun x h1 => match x with | .int i => O (some i) h1 | _ => False) := by simp only [rdO] <;> rfl
@[simp] theorem rdO_mkx0 {c : Str} {O : Option Int → PH → Prop} : rdO sps (.mkx0 c) ρ h xq O = (rdE sps (.mkx0 c) ρ h xq fun x h1 => match x with | .int i => O (some i) h1 | _ => False) := by simp only [rdO] <;> rfl
@[simp] theorem rdO_mkx {c : Str} {fs : List Str} {es : E} {O : Option Int → PH → Prop} : rdO sps (.mkx c fs es) ρ h xq O = (rdE sps (.mkx c fs es) ρ h xq fun x h1 => match x with | .int i => O (some i) h1 | _ => False) := by simp only [rdO] <;> rfl
@[simp] theorem rdO_comp {fz : Bool} {it : E} {tg : Tg} {vs : List Nat} {cond elt : E} {O : Option Int → PH → Prop} : rdO sps (.comp fz it tg vs cond elt) ρ h xq O = (rdE sps (.comp fz it tg vs cond elt) ρ h xq fun x h1 => match x with | .int i => O (some i) h1 | _ => False) := by simp only [rdO] <;> rfl
@[simp] theorem rdC_nil : rdC sps .nil ρ h xq R = R true h := by rw [rdC]
@[simp] theorem rdC_one {a : E} : rdC sps (.cons a .nil) ρ h xq R = rdT_ sps a ρ h xq R := by rw [rdC]
@[simp] theorem rdI_itL {e : E} : rdI sps (.itL e) ρ h xq I = (rdE sps e ρ h xq fun x h1 => match x with | .tup ds => I ds (fun _ => True) h1 | .str s => I (s.map fun c => .str [c]) (fun _ => True) h1 | x => match rdL h1 x with | some ds => I ds (fun h' => rdL h' x = some ds) h1 | none => False) := by rw [rdI] <;> rfl
@[simp] theorem rdI_itR1 {e : E} : rdI sps (.itR1 e) ρ h xq I = (rdE sps e ρ h xq fun x h1 => match x with | .int j => -(2 ^ 62) ≤ j ∧ j < 2 ^ 62 ∧ I (natsD j.toNat) (fun _ => True) h1 | _ => False) := by rw [rdI] <;> rfl
@[simp] theorem rdI_itR2 {a b : E} : rdI sps (.itR2 a b) ρ h xq I = (rdE sps a ρ h xq fun x h1 => rdE sps b ρ h1 xq fun y h2 => match x, y with | .int i, .int j => (-(2 ^ 62) ≤ i ∧ i < 2 ^ 62 ∧ -(2 ^ 62) ≤ j ∧ j < 2 ^ 62) ∧ I ((List.range (j - i).toNat).map fun k : Nat => D.int (i + (k : Int))) (fun _ => True) h2 | _, _ => False) := by rw [rdI] <;> rfl
@[simp] theorem rdI_itEL {e : E} : rdI sps (.itEL e) ρ h xq I = (rdE sps e ρ h xq fun x h1 => match x with | .tup ds => I (pairsD (natsD ds.length) ds) (fun _ => True) h1 | .str s => I (pairsD (natsD s.length) (s.map fun c => .str [c])) (fun _ => True) h1 | x => match rdL h1 x with | some ds => I (pairsD (natsD ds.length) ds) (fun h' => rdL h' x = some ds) h1 | none => False) := by rw [rdI] <;> rfl
@[simp] theorem rdI_itZ {a b : E} : rdI sps (.itZ a b) ρ h xq I = (rdE sps a ρ h xq fun x h1 => rdE sps b ρ h1 xq fun y h2 => zipD x y h2 I) := by rw [rdI] <;> rfl
@[simp] theorem rdS_expr {e : E} : rdS sps (.expr e) Z ρ h = (rdE sps e ρ h (Z.xq ρ) fun _ h1 => Z.nx ρ h1) := by simp only [rdS] <;> rfl
@[simp] theorem rdS_set {tg : Tg} {e : E} : rdS sps (.set tg e) Z ρ h = (rdE sps e ρ h (Z.xq ρ) fun x h1 => match asg tg x ρ with | some ρ1 => Z.nx ρ1 h1 | none => False) := by simp only [rdS] <;> rfl
@[simp] theorem rdS_setC {i : Nat} {e : E} : rdS sps (.setC i e) Z ρ h = (rdE sps e ρ h (Z.xq ρ) fun x h1 => Z.nx (ρ.set i (some x)) h1) := by simp only [rdS] <;> rfl
@[simp] theorem rdS_setT {tgs e : E} : rdS sps (.setT tgs e) Z ρ h = (rdE sps e ρ h (Z.xq ρ) fun x h1 => match x with | .tup ds => eLen tgs = 2 * ds.length ∧ rdSubs sps tgs ds ρ h1 (Z.xq ρ) fun h2 => Z.nx ρ h2 | _ => False) := by simp only [rdS] <;> rfl
@[simp] theorem rdS_raise {c : Str} {fs : List Str} {es : E} : rdS sps (.raise c fs es) Z ρ h = (rdA sps es ρ h (Z.xq ρ) fun ds h1 => ds.length = fs.length ∧ Z.xq ρ ⟨c, (fs.zip ds).reverse⟩ h1) := by simp only [rdS] <;> rfl
@[simp] theorem rdS_try1 {b : S} {ks : List Str} {c : Str} {n : Option Nat} {su : List (Nat × SV)} : rdS sps (.try1 b ks c n su) Z ρ h = (rdS sps b { Z with xq := xqTry ks c n su Z } ρ h) := by simp only [rdS] <;> rfl
@[simp] theorem rdS_setF {o : E} {f : Str} {e : E} {cs : List Str} : rdS sps (.setF o f e cs) Z ρ h = (rdE sps e ρ h (Z.xq ρ) fun y h1 => rdE sps o ρ h1 (Z.xq ρ) fun x h2 => match x with | .ref a => (match h2 a with | some (.ins c fs) => c ∈ cs ∧ fs.length < 100 ∧ put a (.ins c (putFs f y fs)) h2 fun h3 => Z.nx ρ h3 | _ => False) | _ => False) := by simp only [rdS] <;> rfl
@[simp] theorem rdS_augF {o : E} {f : Str} {e : E} {cs : List Str} : rdS sps (.augF o f e cs) Z ρ h = (rdE sps o ρ h (Z.xq ρ) fun x h1 => match x with | .ref a => (match h1 a with | some (.ins c fs) => c ∈ cs ∧ (match fs.lookup f with | some (.int i) => rdE sps e ρ h1 (Z.xq ρ) fun y h2 => (match y, h2 a with | .int j, some (.ins c' fs') => c' = c ∧ fs'.length < 100 ∧ put a (.ins c (putFs f (.int (i + j)) fs')) h2 fun h3 => Z.nx ρ h3 | _, _ => False) | _ => False) | _ => False) | _ => False) := by simp only [rdS] <;> rfl
@[simp] theorem rdS_setI {o i e : E} : rdS sps (.setI o i e) Z ρ h = (rdE sps e ρ h (Z.xq ρ) fun y h1 => rdE sps o ρ h1 (Z.xq ρ) fun x h2 => rdE sps i ρ h2 (Z.xq ρ) fun k h3 => setD x k y h3 fun h4 => Z.nx ρ h4) := by simp only [rdS] <;> rfl
@[simp] theorem rdS_par2 {i j : Nat} {a b : E} : rdS sps (.par2 i j a b) Z ρ h = (rdE sps a ρ h (Z.xq ρ) fun x h1 => rdE sps b ρ h1 (Z.xq ρ) fun y h2 => Z.nx ((ρ.set i (some x)).set j (some y)) h2) := by simp only [rdS] <;> rfl
@[simp] theorem rdS_par3 {i j l : Nat} {a b c : E} : rdS sps (.par3 i j l a b c) Z ρ h = (rdE sps a ρ h (Z.xq ρ) fun x h1 => rdE sps b ρ h1 (Z.xq ρ) fun y h2 => rdE sps c ρ h2 (Z.xq ρ) fun z h3 => Z.nx (((ρ.set i (some x)).set j (some y)).set l (some z)) h3) := by simp only [rdS] <;> rfl
@[simp] theorem rdS_aug {i : Nat} {e : E} : rdS sps (.aug i e) Z ρ h = (match ρ[i]? with | some (some x) => rdE sps e ρ h (Z.xq ρ) fun y h1 => (match x, y with | .int a, .int b => Z.nx (ρ.set i (some (.int (a + b)))) h1 | _, _ => False) | _ => False) := by simp only [rdS] <;> rfl
@[simp] theorem rdS_ret {e : E} : rdS sps (.ret e) Z ρ h = (rdE sps e ρ h (Z.xq ρ) Z.rt) := by simp only [rdS] <;> rfl
@[simp] theorem rdS_retN  : rdS sps (.retN) Z ρ h = (Z.rt .non h) := by simp only [rdS] <;> rfl
@[simp] theorem rdS_ife {t : E} {a b : S} : rdS sps (.ife t a b) Z ρ h = (rdT_ sps t ρ h (Z.xq ρ) fun k h1 => match k with | true => rdS sps a Z ρ h1 | false => rdS sps b Z ρ h1) := by simp only [rdS] <;> rfl
@[simp] theorem rdS_whl {t : E} {b : S} : rdS sps (.whl t b) Z ρ h = (∃ n, whileN (rdT_ sps t) (rdS sps b) n Z ρ h) := by simp only [rdS] <;> rfl
@[simp] theorem rdS_for_ {it : E} {tg : Tg} {b : S} : rdS sps (.for_ it tg b) Z ρ h = (rdI sps it ρ h (Z.xq ρ) fun items stay h1 => forLoop tg (rdS sps b) stay items Z ρ h1) := by simp only [rdS] <;> rfl
@[simp] theorem rdS_brk  : rdS sps (.brk) Z ρ h = (Z.bk ρ h) := by simp only [rdS] <;> rfl
@[simp] theorem rdS_cont  : rdS sps (.cont) Z ρ h = (Z.ct ρ h) := by simp only [rdS] <;> rfl
@[simp] theorem rdS_pass  : rdS sps (.pass) Z ρ h = (Z.nx ρ h) := by simp only [rdS] <;> rfl
@[simp] theorem rdS_nil  : rdS sps (.nil) Z ρ h = (Z.nx ρ h) := by simp only [rdS] <;> rfl
@[simp] theorem rdS_cons {a b : S} : rdS sps (.cons a b) Z ρ h = (rdS sps a { Z with nx := rdS sps b Z } ρ h) := by simp only [rdS] <;> rfl
@[simp] theorem rdSubs_nil {P : PH → Prop} : rdSubs sps .nil [] ρ h xq P = P h := rfl
@[simp] theorem rdSubs_cons {o i r : E} {d : D} {ds : List D} {P : PH → Prop} : rdSubs sps (.cons o (.cons i r)) (d :: ds) ρ h xq P = (rdE sps o ρ h xq fun x h1 => rdE sps i ρ h1 xq fun k h2 => setD x k d h2 fun h3 => rdSubs sps r ds ρ h3 xq P) := rfl
end
theorem Ext.refl {h : PH} : Ext h h := fun _ _ e => e
theorem Ext.trans {h h1 h2 : PH} (a : Ext h h1) (b : Ext h1 h2) : Ext h h2 := fun c u e => b c u (a c u e)
theorem ExtBut.refl {a : Addr} {h : PH} : ExtBut a h h := fun _ _ _ e => e
theorem ExtBut.trans {a : Addr} {h h1 h2 : PH} (p : ExtBut a h h1) (q : ExtBut a h1 h2) : ExtBut a h h2 := fun c u n e => q c u n (p c u n e)
theorem Ext.but {a : Addr} {h h1 : PH} (p : Ext h h1) : ExtBut a h h1 := fun c u _ e => p c u e
/-- a place new behind h is none of h's -/
theorem Ext.new {h h1 : PH} {p q : Addr} {o : PO} (e : Ext h h1) (n : h1 p = none) (t : h q = some o) : q ≠ p := fun z => by
  have := e q o t
  rw [z, n] at this
  cases this
theorem ne_of {h : PH} {p q : Addr} {o : PO} (n : h p = none) (t : h q = some o) : q ≠ p := fun z => by
  rw [z, n] at t
  cases t
/-- a comprehension whose turns give what f says -/
theorem compLoop_map {tg : Tg} {vs : List Nat} {cond : RT} {elt : RE} {stay : PH → Prop} {ρ : Rho} {Q : List D → PH → Prop} (f : D → Option D) (Iv : PH → Prop) (hs : ∀ h, Iv h → stay h) :
    ∀ (ds acc : List D) (h : PH), (∀ d ∈ ds, ∀ h, Iv h → ∃ ρ1, asg tg d (wipeR ρ vs) = some ρ1 ∧ ∀ P : Option D → PH → Prop, (∀ h', Iv h' → P (f d) h') → cond ρ1 h noX fun b h1 => match b with
      | true => elt ρ1 h1 noX fun y h2 => P (some y) h2
      | false => P none h1) → acc.length + ds.length ≤ sizeLine → Iv h → (∀ h', Iv h' → Q (acc ++ ds.filterMap f) h') → compLoop tg vs cond elt stay ρ ds acc h Q
  | [], acc, h, _, _, iv, q => by
    simp only [compLoop]
    simpa using q h iv
  | d :: ds, acc, h, step, len, iv, q => by
    obtain ⟨ρ1, e, turn⟩ := step d (by simp) h iv
    simp only [compLoop, e]
    simp only [List.length_cons] at len
    have tr := turn (fun o h' => match o with
      | some y => acc.length < sizeLine ∧ stay h' ∧ compLoop tg vs cond elt stay ρ ds (acc ++ [y]) h' Q
      | none => stay h' ∧ compLoop tg vs cond elt stay ρ ds acc h' Q) ?_
    · exact tr
    · intro h' iv'
      cases ef : f d with
      | none =>
        refine ⟨hs h' iv', compLoop_map f Iv hs ds acc h' (fun d' hd => step d' (by simp [hd])) (by omega) iv' fun h2 iv2 => ?_⟩
        have := q h2 iv2
        rwa [List.filterMap_cons_none ef] at this
      | some y =>
        refine ⟨by omega, hs h' iv', compLoop_map f Iv hs ds (acc ++ [y]) h' (fun d' hd => step d' (by simp [hd])) (by simp only [List.length_append, List.length_cons, List.length_nil]; omega) iv' fun h2 iv2 => ?_⟩
        have := q h2 iv2
        rw [List.filterMap_cons_some ef] at this
        simpa using this
/-- a for by a word about what is left -/
theorem forLoop_inv {tg : Tg} {b : RS} {stay : PH → Prop} {Z : DEnds} (Pv : List D → Rho → PH → Prop) (hs : ∀ ds ρ h, Pv ds ρ h → stay h)
    (step : ∀ d ds ρ h, Pv (d :: ds) ρ h → ∃ ρ1, asg tg d ρ = some ρ1 ∧ ∀ N : Rho → PH → Prop, (∀ ρ' h', Pv ds ρ' h' → N ρ' h') → b { Z with nx := N, ct := N, bk := Z.nx } ρ1 h)
    (fin : ∀ ρ h, Pv [] ρ h → Z.nx ρ h) : ∀ (ds : List D) (ρ : Rho) (h : PH), Pv ds ρ h → forLoop tg b stay ds Z ρ h
  | [], ρ, h, p => by
    simp only [forLoop]
    exact fin ρ h p
  | d :: ds, ρ, h, p => by
    obtain ⟨ρ1, e, st⟩ := step d ds ρ h p
    simp only [forLoop, e]
    exact st _ fun ρ' h' p' => ⟨hs ds ρ' h' p', forLoop_inv Pv hs step fin ds ρ' h' p'⟩
/-- a while by a word and a measure -/
theorem whileN_inv {t : RT} {b : RS} {Z : DEnds} (Pv : Rho → PH → Prop) (μ : Rho → PH → Nat)
    (step : ∀ ρ h, Pv ρ h → ∀ N : Rho → PH → Prop, (∀ ρ' h', Pv ρ' h' → μ ρ' h' < μ ρ h → N ρ' h') → t ρ h (Z.xq ρ) fun k h1 => match k with
      | true => b { Z with nx := N, ct := N, bk := Z.nx } ρ h1
      | false => Z.nx ρ h1) : ∀ (n : Nat) (ρ : Rho) (h : PH), Pv ρ h → μ ρ h < n → whileN t b n Z ρ h
  | 0, ρ, h, _, l => absurd l (Nat.not_lt_zero _)
  | n + 1, ρ, h, p, l => by
    show t ρ h (Z.xq ρ) fun k h1 => match k with
      | true => b { Z with nx := whileN t b n Z, ct := whileN t b n Z, bk := Z.nx } ρ h1
      | false => Z.nx ρ h1
    exact step ρ h p _ fun ρ' h' p' l' => whileN_inv Pv μ step n ρ' h' p' (by omega)
/-! ### operators at told kinds -/
section
variable {h : PH} {Q : D → PH → Prop} {R : Bool → Prop} {i j : Int} {a b : List Nat} {as bs : List D} {p q : Addr} {fz : Bool}
@[simp] theorem bin_addI : binD fz .add (.int i) (.int j) h Q = Q (.int (i + j)) h := rfl
@[simp] theorem bin_addS : binD fz .add (.str a) (.str b) h Q = (a.length + b.length ≤ sizeLine ∧ Q (.str (a ++ b)) h) := rfl
@[simp] theorem bin_addT : binD fz .add (.tup as) (.tup bs) h Q = (as.length + bs.length ≤ sizeLine ∧ Q (.tup (as ++ bs)) h) := rfl
@[simp] theorem bin_subI : binD fz .sub (.int i) (.int j) h Q = Q (.int (i - j)) h := rfl
@[simp] theorem bin_mulI : binD fz .mul (.int i) (.int j) h Q = (CMul i j ∧ Q (.int (i * j)) h) := rfl
@[simp] theorem bin_mulS : binD fz .mul (.str a) (.int i) h Q = (1 ≤ i ∧ i ≤ 10000 ∧ 0 < a.length ∧ a.length ≤ 100 ∧ Q (.str (List.replicate i.toNat a).flatten) h) := rfl
@[simp] theorem bin_fdiv : binD fz .fdiv (.int i) (.int j) h Q = (CDiv i j ∧ Q (.int (i / j)) h) := rfl
@[simp] theorem bin_mod : binD fz .mod (.int i) (.int j) h Q = (0 < j ∧ Q (.int (i % j)) h) := rfl
@[simp] theorem bin_pow : binD fz .pow (.int i) (.int j) h Q = (CPow i j ∧ Q (.int (i ^ j.toNat)) h) := rfl
theorem bin_addL (ha : h p = some (.lst as)) (hb : h q = some (.lst bs)) : binD fz .add (.ref p) (.ref q) h Q = (as.length + bs.length ≤ sizeLine ∧ newL fz (as ++ bs) h Q) := by
  simp only [binD, rdL, ha, hb]
@[simp] theorem cmp_eqI : cmpD .eq (.int i) (.int j) h R = R (decide (i = j)) := rfl
@[simp] theorem cmp_eqS : cmpD .eq (.str a) (.str b) h R = R (decide (a = b)) := rfl
@[simp] theorem cmp_neI : cmpD .ne (.int i) (.int j) h R = R (!decide (i = j)) := rfl
@[simp] theorem cmp_neS : cmpD .ne (.str a) (.str b) h R = R (!decide (a = b)) := rfl
@[simp] theorem cmp_lt : cmpD .lt (.int i) (.int j) h R = R (decide (i < j)) := rfl
@[simp] theorem cmp_le : cmpD .le (.int i) (.int j) h R = R (decide (i ≤ j)) := rfl
@[simp] theorem cmp_gt : cmpD .gt (.int i) (.int j) h R = R (decide (j < i)) := rfl
@[simp] theorem cmp_ge : cmpD .ge (.int i) (.int j) h R = R (decide (j ≤ i)) := rfl
@[simp] theorem cmp_isN {x : D} : cmpD .is x .non h R = R (noneD x) := rfl
@[simp] theorem cmp_isnotN {x : D} : cmpD .isnot x .non h R = R (!noneD x) := rfl
@[simp] theorem cmp_inS {c : Nat} : cmpD .isin (.str [c]) (.str b) h R = R (decide (c ∈ b)) := rfl
@[simp] theorem cmp_notinS {c : Nat} : cmpD .notin (.str [c]) (.str b) h R = R (!decide (c ∈ b)) := rfl
@[simp] theorem tru_bl {k : Bool} : truQ h (.bl k) R = R k := rfl
@[simp] theorem tru_non : truQ h .non R = R false := rfl
@[simp] theorem tru_int : truQ h (.int i) R = R (decide (i ≠ 0)) := rfl
@[simp] theorem tru_str : truQ h (.str a) R = (a.length ≤ sizeLine ∧ R (!a.isEmpty)) := rfl
@[simp] theorem tru_tup : truQ h (.tup as) R = R (!as.isEmpty) := rfl
@[simp] theorem bin_addRR : binD fz .add (.rol as) (.rol bs) h Q = (as.length + bs.length ≤ sizeLine ∧ newL fz (as ++ bs) h Q) := rfl
@[simp] theorem tru_rol : truQ h (.rol as) R = R (!as.isEmpty) := rfl
@[simp] theorem rdL_rol : rdL h (.rol as) = some as := rfl
@[simp] theorem rdQ_rol : rdQ h (.rol as) = some as := rfl
@[simp] theorem rdQ_tup : rdQ h (.tup as) = some as := rfl
theorem tru_lst (e : h p = some (.lst as)) : truQ h (.ref p) R = R (!as.isEmpty) := by simp only [truQ, rdQ, rdL, e]
@[simp] theorem asg_nm {i : Nat} {d : D} {ρ : Rho} : asg (.nm i) d ρ = some (ρ.set i (some d)) := by simp only [asg]
@[simp] theorem asg_tup {l : Tg} {ρ : Rho} : asg (.tup l) (.tup as) ρ = asgs l as ρ := by simp only [asg]
@[simp] theorem asgs_nil {ρ : Rho} : asgs .nil [] ρ = some ρ := by simp only [asgs]
@[simp] theorem asgs_cons {t l : Tg} {d : D} {ρ : Rho} : asgs (.cons t l) (d :: as) ρ = (match asg t d ρ with
    | some ρ' => asgs l as ρ'
    | none => none) := by simp only [asgs] <;> rfl
theorem sz : sizeLine = 16777216 := rfl
end

end Lit
/-! The drawing defs that many laws share. -/
namespace Lit
open PySem PySem.Spec PyProof.Rows L2
theorem spAt_ok {sps : List DSp} {i : Nat} {sp : DSp} {ds : List D} {h : PH} {xq : XQ} {Q : D → PH → Prop} (e : sps[i]? = some sp) (q : sp ds h xq Q) : spAt sps i ds h xq Q := by
  simp only [spAt, e]
  exact .of q
def spMixed : DSp := fun ds h _ Q => ∃ c k : Int, ds = [.int c, .int k] ∧ 0 ≤ k ∧ k < 2 ^ 50 ∧ ∀ r : Int, 0 ≤ r → r < 2147483647 → Q (.int r) h
def E_mixed : S := .cons (.set (.nm 0) (.op true .add (.op true .add (.op true .mod (.var 0) (.int 1000000007)) (.op true .mul (.int 7919) (.var 1))) (.int 13))) (.cons (.ret (.op true .mod (.op true .mul (.op true .mod (.op true .mul (.var 0) (.var 0)) (.int 1000000007)) (.int 48271)) (.int 2147483647))) .nil)
theorem cmul_of {i j : Int} (h1 : -(2 ^ 64) < i) (h2 : i < 2 ^ 64) : CMul i j := .inl ⟨h1, h2⟩
theorem b_mixed (sps : List DSp) (ds h xq Q) (q : spMixed ds h xq Q) : rdS sps E_mixed { nx := fun _ h' => Q .non h', rt := Q, xq := fun _ => xq } (startD 2 ds) h := by
  obtain ⟨c, k, rfl, h1, h2, hQ⟩ := q
  have a1 := Int.emod_nonneg c (show (1000000007 : Int) ≠ 0 by decide)
  have a2 := Int.emod_lt_of_pos c (show (0 : Int) < 1000000007 by decide)
  have b1 := Int.emod_nonneg ((c % 1000000007 + 7919 * k + 13) * (c % 1000000007 + 7919 * k + 13)) (show (1000000007 : Int) ≠ 0 by decide)
  have b2 := Int.emod_lt_of_pos ((c % 1000000007 + 7919 * k + 13) * (c % 1000000007 + 7919 * k + 13)) (show (0 : Int) < 1000000007 by decide)
  simp [E_mixed, startD]
  refine ⟨cmul_of (by decide) (by decide), cmul_of (by omega) (by omega), cmul_of (by omega) (by omega), ?_⟩
  exact hQ _ (Int.emod_nonneg _ (by decide)) (Int.emod_lt_of_pos _ (by decide))
abbrev dL : List Nat := [108, 101, 102, 116]
abbrev dS : List Nat := [115, 101, 101, 100]
abbrev dT : List Nat := [116, 117, 114, 110, 115]
abbrev stO (l s t : D) (r : List (D × D)) : PO := .dct ((.str dL, l) :: (.str dS, s) :: (.str dT, t) :: r)
/-- what a drawing state holds besides -/
def okR (r : List (D × D)) : Prop := r.length < 100 ∧ ∀ kv ∈ r, ∃ z, kv.1 = .str z ∧ z ≠ dL ∧ z ≠ dS ∧ z ≠ dT
/-- a drawing state, its turns at most n -/
def StR (r : List (D × D)) (n : Int) (h : PH) (p : Addr) : Prop := ∃ l s t : Int, h p = some (stO (.int l) (.int s) (.int t) r) ∧ 0 ≤ l ∧ 0 ≤ t ∧ t ≤ n ∧ okR r
abbrev St (n : Int) (h : PH) (p : Addr) : Prop := StR [] n h p
theorem okR_nil : okR [] := ⟨by decide, fun _ h => nomatch h⟩
theorem okR_notup {r : List (D × D)} (o : okR r) : (r.all fun p => match p.1 with
    | .tup _ => false
    | _ => true) = true := by
  rw [List.all_eq_true]
  intro kv h
  obtain ⟨z, e, _⟩ := o.2 kv h
  rw [e]
theorem okR_map {r : List (D × D)} (o : okR r) (k : List Nat) (hk : k = dL ∨ k = dS ∨ k = dT) (v : D) : (r.map fun p => if eqK p.1 (.str k) = true then (p.1, v) else p) = r := by
  have e : r.map (fun p => if eqK p.1 (.str k) = true then (p.1, v) else p) = r.map id := by
    refine List.map_congr_left fun kv h => ?_
    obtain ⟨z, e, n1, n2, n3⟩ := o.2 kv h
    have : eqK kv.1 (.str k) = false := by
      rw [e]
      simp only [eqK, eqF, decide_eq_false_iff_not]
      rcases hk with rfl | rfl | rfl <;> assumption
    rw [this]
    rfl
  rw [e, List.map_id]
def E_draw : S := .cons (.ret (.dic (.cons (.str [108, 101, 102, 116]) (.cons (.ife (.cmp .ge (.var 0) (.op true .pow (.int 10) (.int 18))) (.var 0) (.int 0)) (.cons (.str [115, 101, 101, 100]) (.cons (.call 0 (.cons (.var 0) (.cons (.var 1) .nil))) (.cons (.str [116, 117, 114, 110, 115]) (.cons (.var 1) .nil)))))))) .nil
def spDraw : DSp := fun ds h _ Q => ∃ c k : Int, ds = [.int c, .int k] ∧ 0 ≤ k ∧ k < 2 ^ 50 ∧ ∀ p h', h p = none → St k h' p → Ext h h' → Q (.ref p) h'
theorem b_draw (sps : List DSp) (e : sps[0]? = some spMixed) (ds h xq Q) (q : spDraw ds h xq Q) : rdS sps E_draw { nx := fun _ h' => Q .non h', rt := Q, xq := fun _ => xq } (startD 2 ds) h := by
  obtain ⟨c, k, rfl, h1, h2, hQ⟩ := q
  have go : ∀ l : Int, 0 ≤ l → spAt sps 0 [.int c, .int k] h xq fun y h2 => alloc (.dct (mergeD [] [(.str [108, 101, 102, 116], .int l), (.str [115, 101, 101, 100], y), (.str [116, 117, 114, 110, 115], .int k)])) h2 Q := fun l hl => by
    refine spAt_ok e ⟨c, k, rfl, h1, h2, fun r hr hr2 p h' n e' x => hQ p h' n ⟨l, r, k, e', hl, h1, by omega, okR_nil⟩ x⟩
  simp [E_draw, startD, kvPairs]
  refine ⟨⟨by decide, by decide, by decide⟩, ?_⟩
  by_cases z : (1000000000000000000 : Int) ≤ c
  · simp [z]
    exact go c (by omega)
  · simp [z]
    exact go 0 (by omega)

section
variable {h : PH} {p : Addr} {l s t v : D} {r : List (D × D)} {Q : D → PH → Prop} {R : PH → Prop}
theorem ixL (e : h p = some (stO l s t r)) : ixD (.ref p) (.str dL) h Q = Q l h := by simp [ixD, e, keyOk, getD?, eqK, eqF]
theorem ixS (e : h p = some (stO l s t r)) : ixD (.ref p) (.str dS) h Q = Q s h := by simp [ixD, e, keyOk, getD?, eqK, eqF]
theorem ixT (e : h p = some (stO l s t r)) : ixD (.ref p) (.str dT) h Q = Q t h := by simp [ixD, e, keyOk, getD?, eqK, eqF]
theorem setL (e : h p = some (stO l s t r)) (o : okR r) : setD (.ref p) (.str dL) v h R = put p (stO v s t r) h R := by
  have n := okR_notup o
  have m := okR_map o dL (.inl rfl) v
  have len : r.length + 1 + 1 + 1 < 16777216 := by have := o.1; omega
  simp [setD, e, keyOk, likeKeys, setKV, eqK, eqF, sz, len]
  simp only [eqK, eqF] at m
  simp at n m
  rw [m]
  exact and_iff_right n
theorem setT (e : h p = some (stO l s t r)) (o : okR r) : setD (.ref p) (.str dT) v h R = put p (stO l s v r) h R := by
  have n := okR_notup o
  have m := okR_map o dT (.inr (.inr rfl)) v
  have len : r.length + 1 + 1 + 1 < 16777216 := by have := o.1; omega
  simp [setD, e, keyOk, likeKeys, setKV, eqK, eqF, sz, len]
  simp only [eqK, eqF] at m
  simp at n m
  rw [m]
  exact and_iff_right n
end
def E_digitIf : S := .cons (.setI (.var 0) (.str dT) (.op true .add (.ix (.var 0) (.str dT)) (.int 1))) (.cons (.for_ (.itR1 (.int 4)) (.nm 3) (.cons (.setI (.var 0) (.str dL) (.op true .add (.op true .mul (.ix (.var 0) (.str dL)) (.int 2147483647)) (.call 0 (.cons (.ix (.var 0) (.str dS)) (.cons (.op true .add (.op true .mul (.int 4) (.ix (.var 0) (.str dT))) (.var 3)) .nil))))) .nil)) .nil)
def E_digit : S := .cons (.ife (.cmp .eq (.ix (.var 0) (.str dL)) (.int 0)) E_digitIf .nil) (.cons (.set (.nm 2) (.op true .mod (.ix (.var 0) (.str dL)) (.var 1))) (.cons (.setI (.var 0) (.str dL) (.op true .fdiv (.ix (.var 0) (.str dL)) (.var 1))) (.cons (.ret (.var 2)) .nil)))
/-- what a draw gives, and the state behind it -/
def spDigit : DSp := fun ds h _ Q => ∃ (p : Addr) (m n : Int) (w : List (D × D)), ds = [.ref p, .int m] ∧ 1 ≤ m ∧ m < 1000000 ∧ n < 2 ^ 40 ∧ StR w n h p ∧ ∀ (r : Int) (h' : PH), 0 ≤ r → r < m → StR w (n + 1) h' p → ExtBut p h h' → Q (.int r) h'
theorem digit_if (sps : List DSp) (e : sps[0]? = some spMixed) (p : Addr) (m n : Int) (w : List (D × D)) (h : PH) (Z : DEnds) (hn : n < 2 ^ 40) (st : StR w n h p)
    (k : ∀ (x : Option D) (h' : PH), StR w (n + 1) h' p → ExtBut p h h' → Z.nx [some (.ref p), some (.int m), none, x] h') : rdS sps E_digitIf Z [some (.ref p), some (.int m), none, none] h := by
  obtain ⟨l, s, t, eh, hl, ht, htn, ow⟩ := st
  simp [E_digitIf, ixT eh, setT eh ow]
  intro h1 e1 x1
  refine forLoop_inv (fun ds ρ h' => (∃ x, ρ = [some (.ref p), some (.int m), none, x]) ∧ (∃ l', 0 ≤ l' ∧ h' p = some (stO (.int l') (.int s) (.int (t + 1)) w)) ∧ ExtBut p h h' ∧ ∀ d ∈ ds, ∃ j : Nat, d = .int j ∧ j < 4) (fun _ _ _ _ => trivial) ?_ ?_ _ _ _ ⟨⟨_, rfl⟩, ⟨l, hl, e1⟩, x1, ?_⟩
  · rintro d ds ρ h' ⟨⟨x, rfl⟩, ⟨l', hl', e'⟩, x', hd⟩
    obtain ⟨j, rfl, hj⟩ := hd d (by simp)
    refine ⟨_, asg_nm, fun N hN => ?_⟩
    simp [ixL e', ixS e', ixT e']
    refine ⟨.inr ⟨by decide, by decide⟩, cmul_of (by decide) (by decide), spAt_ok e ⟨s, _, rfl, by omega, by omega, fun r hr hr2 => ?_⟩⟩
    simp [setL e' ow]
    intro h2 e2 x2
    exact hN _ _ ⟨⟨_, rfl⟩, ⟨_, by have := Int.mul_nonneg hl' (show (0 : Int) ≤ 2147483647 by decide); omega, e2⟩, x'.trans x2, fun d' h' => hd d' (by simp [h'])⟩
  · rintro ρ h' ⟨⟨x, rfl⟩, ⟨l', hl', e'⟩, x', _⟩
    exact k x h' ⟨l', s, _, e', hl', by omega, by omega, ow⟩ x'
  · intro d hd
    simp only [natsD, List.mem_map, List.mem_range] at hd
    obtain ⟨j, hj, rfl⟩ := hd
    exact ⟨j, rfl, hj⟩
theorem b_digit (sps : List DSp) (e : sps[0]? = some spMixed) (ds h xq Q) (q : spDigit ds h xq Q) : rdS sps E_digit { nx := fun _ h' => Q .non h', rt := Q, xq := fun _ => xq } (startD 4 ds) h := by
  obtain ⟨p, m, n, w, rfl, hm, hm2, hn, st, hQ⟩ := q
  have fin : ∀ (x : Option D) (h' : PH), StR w (n + 1) h' p → ExtBut p h h' → rdS sps (.cons (.set (.nm 2) (.op true .mod (.ix (.var 0) (.str dL)) (.var 1))) (.cons (.setI (.var 0) (.str dL) (.op true .fdiv (.ix (.var 0) (.str dL)) (.var 1))) (.cons (.ret (.var 2)) .nil))) { nx := fun _ h' => Q .non h', rt := Q, xq := fun _ => xq } [some (.ref p), some (.int m), none, x] h' := by
    rintro x h' ⟨l, s, t, e', hl, ht, htn, ow⟩ x'
    simp [ixL e', setL e' ow]
    refine ⟨by omega, ⟨by omega, by omega⟩, fun h2 e2 x2 => hQ _ _ (Int.emod_nonneg _ (by omega)) (Int.emod_lt_of_pos _ (by omega)) ⟨_, _, _, e2, Int.ediv_nonneg hl (by omega), ht, htn, ow⟩ (x'.trans x2)⟩
  have st0 := st
  obtain ⟨l, s, t, eh, hl, ht, htn, ow⟩ := st
  have sd : startD 4 [.ref p, .int m] = [some (.ref p), some (.int m), none, none] := rfl
  rw [sd]
  unfold E_digit
  rw [rdS_cons, rdS_ife]
  simp only [rdT_cmp, rdE_ix, rdE_var, rdE_str, rdE_int, List.getElem?_cons_zero, ixL eh, cmp_eqI]
  by_cases z : l = 0
  · simp only [z, decide_true]
    refine digit_if sps e p m n w h _ hn st0 fun x h' s' x' => fin x h' s' x'
  · simp only [z, decide_false, rdS_nil]
    exact fin none h ⟨l, s, t, eh, hl, ht, by omega, ow⟩ .refl
end Lit
/-! The program's words: whole numbers, names, numbers, rows. -/
namespace Lit
open PySem PySem.Spec PyProof.Rows L2
abbrev body (sps : List DSp) (e : S) (n : Nat) (ds : List D) (h : PH) (xq : XQ) (Q : D → PH → Prop) : Prop := rdS sps e { nx := fun _ h' => Q .non h', rt := Q, xq := fun _ => xq } (startD n ds) h
theorem isi_ref {t : Ty} {a : Addr} {h : PH} {Q : Bool → Prop} (d : isData (.ref a) h = true) (b : bltTy t = true) (q1 : t ≠ .list → Q false) (q2 : ∀ ds, h a = some (.lst ds) → t = .list → Q true) (q3 : t = .list → (∀ ds, h a ≠ some (.lst ds)) → Q false) : isiD t (.ref a) h Q := by
  have d : (match h a with
    | some (.lst _) => true
    | some (.dct _) => true
    | _ => false) = true := d
  cases e : h a with
  | none => rw [e] at d; cases d
  | some o =>
    cases o with
    | lst ds =>
      by_cases z : t = .list
      · have := q2 ds e z
        subst z
        simpa [isiD, e] using this
      · cases t <;> first | exact absurd rfl z | (simp [isiD, e]; exact q1 z) | cases b
    | dct ks =>
      by_cases z : t = .list
      · have := q3 z (fun ds c => by rw [e] at c; cases c)
        subst z
        simpa [isiD, e] using this
      · cases t <;> first | exact absurd rfl z | (simp [isiD, e]; exact q1 z) | cases b
    | ins _ _ => rw [e] at d; cases d
    | exc _ _ => rw [e] at d; cases d
/-! ### is_whole, is_among -/
def isW : D → Bool
  | .int _ => true
  | _ => false
def E_whole : S := .cons (.ret (.land (.cons (.isi (.var 0) .int) (.cons (.lnot (.isi (.var 0) .bool)) .nil)))) .nil
def spWhole : DSp := fun ds h _ Q => ∃ d, ds = [d] ∧ isData d h = true ∧ Q (.bl (isW d)) h
theorem b_whole (sps : List DSp) (ds h xq Q) (q : spWhole ds h xq Q) : body sps E_whole 1 ds h xq Q := by
  obtain ⟨d, rfl, hd, hQ⟩ := q
  cases d with
  | ref a =>
    simp [body, E_whole, startD, hd]
    exact isi_ref hd rfl (fun _ => by simpa [isW] using hQ) (fun _ _ z => nomatch z) (fun z => nomatch z)
  | _ => simpa [body, E_whole, startD, isiD, isData, isW] using hQ
def isA (d : D) (i j : Int) : Bool := match d with
  | .int k => decide (i ≤ k) && decide (k ≤ j)
  | _ => false
def E_among (i : Nat) : S := .cons (.ret (.land (.cons (.call i (.cons (.var 0) .nil)) (.cons (.chain .le .le (.var 1) (.var 0) (.var 2)) .nil)))) .nil
def spAmong : DSp := fun ds h _ Q => ∃ (d : D) (i j : Int), ds = [d, .int i, .int j] ∧ isData d h = true ∧ Q (.bl (isA d i j)) h
theorem b_among (sps : List DSp) (n : Nat) (e : sps[n]? = some spWhole) (ds h xq Q) (q : spAmong ds h xq Q) : body sps (E_among n) 3 ds h xq Q := by
  obtain ⟨d, i, j, rfl, hd, hQ⟩ := q
  simp [body, E_among, startD]
  refine spAt_ok e ⟨d, rfl, hd, ?_⟩
  cases d with
  | int k =>
    simp [isW]
    simp only [isA] at hQ
    by_cases z : i ≤ k
    · simp [z]
      simpa [z] using hQ
    · simp [z]
      simpa [z] using hQ
  | _ => simpa [isW, isA] using hQ
/-! ### is_name -/
def lets : List Nat := [97, 98, 99, 100, 101, 102, 103, 104, 105, 106, 107, 108, 109, 110, 111, 112, 113, 114, 115, 116, 117, 118, 119, 120, 121, 122]
def figs : List Nat := [48, 49, 50, 51, 52, 53, 54, 55, 56, 57]
def isN : D → Bool
  | .str s => decide (1 ≤ s.length) && decide (s.length ≤ 8) && s.all fun c => decide (c ∈ lets)
  | _ => false
def shortD : D → Prop
  | .str s => s.length ≤ sizeLine
  | _ => True
/-- all([sign in T for sign in s]), s the first slot -/
def allIn (i : Nat) (g : Str) (t : List Nat) : E := .b1 .all (.comp true (.itL (.var 0)) (.nm i) [i] .nil (.cmp .isin (.var i) (.gstr g t)))
@[simp] theorem rdT_allIn {sps : List DSp} {i : Nat} {g : Str} {t : List Nat} {ρ : Rho} {h : PH} {xq : XQ} {R : Bool → PH → Prop} : rdT_ sps (allIn i g t) ρ h xq R = rdE sps (allIn i g t) ρ h xq fun x h1 => truQ h1 x fun k => R k h1 := by
  simp only [allIn, rdT_] <;> rfl
def E_name : S := .cons (.ife (.lor (.cons (.lnot (.isi (.var 0) .str)) (.cons (.lnot (.chain .le .le (.int 1) (.b1 .len (.var 0)) (.gint "MOST_LETTERS" 8))) .nil))) (.cons (.ret (.bl false)) .nil) .nil) (.cons (.ret (allIn 1 "LETTERS" lets)) .nil)
def spName : DSp := fun ds h _ Q => ∃ d, ds = [d] ∧ isData d h = true ∧ shortD d ∧ Q (.bl (isN d)) h
theorem len_str {s : List Nat} {h : PH} {Q : D → PH → Prop} : b1D .len (.str s) h Q = (s.length ≤ sizeLine ∧ Q (.int s.length) h) := rfl
theorem bls_bl : ∀ bs : List Bool, blsOf (bs.map D.bl) = some bs
  | [] => rfl
  | b :: bs => by simp only [List.map_cons, blsOf, bls_bl bs, Option.map_some]
theorem strs_str : ∀ bs : List (List Nat), strsOf (bs.map D.str) = some bs
  | [] => rfl
  | b :: bs => by simp only [List.map_cons, strsOf, strs_str bs, Option.map_some]
theorem ints_int : ∀ bs : List Int, intsOf (bs.map D.int) = some bs
  | [] => rfl
  | b :: bs => by simp only [List.map_cons, intsOf, ints_int bs, Option.map_some]
/-- f of a text of one sign -/
def sgn (g : Nat → Option D) : D → Option D
  | .str [c] => g c
  | _ => none
theorem fm_sig (g : Nat → Option D) : ∀ s : List Nat, (s.map fun c => D.str [c]).filterMap (sgn g) = s.filterMap g
  | [] => rfl
  | c :: s => by
    rw [List.map_cons, List.filterMap_cons, List.filterMap_cons, fm_sig g s] <;> rfl
theorem fm_some {α β : Type} (f : α → β) : ∀ s : List α, s.filterMap (fun c => some (f c)) = s.map f
  | [] => rfl
  | c :: s => by rw [List.filterMap_cons, fm_some f s, List.map_cons]
/-- all([sign in T for sign in s]) -/
theorem all_in (sps : List DSp) {ρ : Rho} {h : PH} {xq : XQ} {Q : D → PH → Prop} {s t : List Nat} {g : Str} {i : Nat} (hi : i < ρ.length) (h0 : ρ[0]? = some (some (.str s))) (hl : s.length ≤ sizeLine) (q : Q (.bl (s.all fun c => decide (c ∈ t))) h) :
    rdE sps (allIn i g t) ρ h xq Q := by
  simp only [allIn, rdE_b1, rdE_comp, rdI_itL, rdE_var, h0]
  refine compLoop_map (sgn fun c => some (.bl (decide (c ∈ t)))) (fun h' => h' = h) (fun _ _ => trivial) _ _ _ ?_ (by simpa using hl) rfl ?_
  · intro d hd h' eh
    subst eh
    obtain ⟨c, _, rfl⟩ := List.mem_map.mp hd
    refine ⟨_, asg_nm, fun P hP => ?_⟩
    simp only [rdC_nil, rdE_cmp, rdE_var, rdE_gstr]
    have e : (List.set (wipeR ρ [i]) i (some (D.str [c])))[i]? = some (some (.str [c])) := by
      simp [wipeR, hi]
    rw [e]
    exact hP _ rfl
  · intro h' eh
    subst eh
    have fm := fm_sig (fun c => some (D.bl (decide (c ∈ t)))) s
    rw [fm_some] at fm
    have mm : (s.map fun c => D.bl (decide (c ∈ t))) = (s.map fun c => decide (c ∈ t)).map D.bl := by rw [List.map_map]; rfl
    rw [mm] at fm
    simp only [List.nil_append, fm, newL_t, b1D, rdL, bls_bl]
    rw [List.all_map]
    exact q
theorem b_name (sps : List DSp) (ds h xq Q) (q : spName ds h xq Q) : body sps E_name 2 ds h xq Q := by
  obtain ⟨d, rfl, hd, hs, hQ⟩ := q
  have no : isN d = false → (∀ s, d ≠ .str s) → body sps E_name 2 [d] h xq Q := fun e1 e2 => by
    have hq := hQ
    rw [e1] at hq
    cases d with
    | str s => exact absurd rfl (e2 s)
    | ref a =>
      simp [body, E_name, startD, hd]
      exact isi_ref hd rfl (fun _ => by simpa using hq) (fun _ _ z => nomatch z) (fun z => nomatch z)
    | _ => simpa [body, E_name, startD, isiD, isData] using hq
  cases d with
  | str s =>
    by_cases z1 : (1 : Int) ≤ (s.length : Int)
    · by_cases z2 : (s.length : Int) ≤ 8
      · have i1 : isN (.str s) = s.all fun c => decide (c ∈ lets) := by
          have y1 : 1 ≤ s.length := by omega
          have y2 : s.length ≤ 8 := by omega
          simp [isN, y1, y2]
        simp [body, E_name, startD, isiD, isData, len_str, z1, z2, show s.length ≤ sizeLine from hs]
        exact all_in sps (Nat.lt_succ_self 1) rfl hs (by rw [← i1]; exact hQ)
      · have i1 : isN (.str s) = false := by
          have y2 : ¬ s.length ≤ 8 := by omega
          simp [isN, y2]
        have hq := hQ
        rw [i1] at hq
        simp [body, E_name, startD, isiD, isData, len_str, z1, z2, show s.length ≤ sizeLine from hs]
        exact hq
    · have i1 : isN (.str s) = false := by
        have y1 : ¬ 1 ≤ s.length := by omega
        simp [isN, y1]
      have hq := hQ
      rw [i1] at hq
      simp [body, E_name, startD, isiD, isData, len_str, z1, show s.length ≤ sizeLine from hs]
      exact hq
  | _ => exact no rfl (fun _ z => nomatch z)

/-! ### number_of -/
def numV : List Nat → Nat := fun s => s.foldl (fun n c => n * 10 + (c - 48)) 0
def okNum (s : List Nat) : Bool := decide (1 ≤ s.length) && decide (s.length ≤ 2) && (s.all fun c => decide (c ∈ figs)) && !(decide (s[0]? = some 48) && decide (s ≠ [48]))
def numD : D → D
  | .str s => if okNum s = true then .int (numV s : Nat) else .non
  | _ => .non
def E_number : S := .cons (.ife (.lor (.cons (.lnot (.isi (.var 0) .str)) (.cons (.lnot (.chain .le .le (.int 1) (.b1 .len (.var 0)) (.gint "MOST_FIGURES" 2))) .nil))) (.cons (.ret .non) .nil) .nil)
  (.cons (.ife (.lor (.cons (.lnot (allIn 1 "FIGURES" figs)) (.cons (.land (.cons (.cmp .eq (.ix (.var 0) (.int 0)) (.str [48])) (.cons (.cmp .ne (.var 0) (.str [48])) .nil))) .nil))) (.cons (.ret .non) .nil) .nil) (.cons (.ret (.b1 .int (.var 0))) .nil))
def spNumber : DSp := fun ds h _ Q => ∃ d, ds = [d] ∧ isData d h = true ∧ shortD d ∧ Q (numD d) h
theorem figs_of {c : Nat} : c ∈ figs → 48 ≤ c ∧ c ≤ 57 := by
  intro h
  simp only [figs, List.mem_cons, List.not_mem_nil, or_false] at h
  omega
theorem int_num {s : List Nat} (h1 : s ≠ []) (h2 : s.length ≤ 2) (h : (s.all fun c => decide (c ∈ figs)) = true) : PySem.intText? (mkS s) = some ((numV s : Nat) : Int) := by
  have a : s.all (fun c => decide (48 ≤ c) && decide (c ≤ 57)) = true := by
    rw [List.all_eq_true] at h ⊢
    intro c hc
    have := figs_of (of_decide_eq_true (h c hc))
    simp [this.1, this.2]
  rw [SX.int_S a h1 (by omega)]
  match s, h1, h2 with
  | [x], _, _ => simp [NumText.digitsVal, numV]
  | [x, y], _, _ => simp [NumText.digitsVal, numV]
theorem b_number (sps : List DSp) (ds h xq Q) (q : spNumber ds h xq Q) : body sps E_number 2 ds h xq Q := by
  obtain ⟨d, rfl, hd, hs, hQ⟩ := q
  cases d with
  | str s =>
    have hs : s.length ≤ sizeLine := hs
    by_cases z1 : (1 : Int) ≤ (s.length : Int)
    · by_cases z2 : (s.length : Int) ≤ 2
      · have y1 : 1 ≤ s.length := by omega
        have y2 : s.length ≤ 2 := by omega
        have ne : s ≠ [] := fun e => by rw [e] at y1; simp at y1
        simp [body, E_number, startD, isiD, isData, len_str, z1, z2, hs]
        refine all_in sps (ρ := [some (.str s), none]) (Nat.lt_succ_self 1) rfl hs ?_
        simp only [truQ]
        cases ea : s.all fun c => decide (c ∈ figs) with
        | false =>
          simp
          have := hQ
          have i1 : numD (.str s) = .non := by simp [numD, okNum, ea]
          rwa [i1] at this
        | true =>
          obtain ⟨c, r, rfl⟩ := List.exists_cons_of_ne_nil ne
          simp only [Bool.not_true]
          have e0 : atI (c :: r) 0 = some c := by simp [atI, ixN]
          simp [ixD, e0, hs]
          have hq := hQ
          by_cases c1 : c = 48
          · by_cases c2 : r = []
            · subst c1 c2
              simp [b1D, int_num ne y2 ea]
              exact ⟨by decide, by simpa [numD, okNum, ea] using hq⟩
            · simp [c1, c2]
              exact ⟨by simpa using hs, by simpa [numD, okNum, c1, c2] using hq⟩
          · simp [c1, b1D, int_num ne y2 ea]
            refine ⟨by simpa using hs, by simp at y2; omega, ?_⟩
            have y2' : r.length + 1 ≤ 2 := by simpa using y2
            have ea' := ea
            simp only [List.all_cons] at ea'
            have : numD (.str (c :: r)) = .int ((numV (c :: r) : Nat) : Int) := by
              simp only [numD, okNum, ea, List.length_cons]
              simp [c1]
              omega
            rwa [this] at hq
      · have i1 : numD (.str s) = .non := by
          have y2 : ¬ s.length ≤ 2 := by omega
          simp [numD, okNum, y2]
        have hq := hQ
        rw [i1] at hq
        simp [body, E_number, startD, isiD, isData, len_str, z1, z2, hs]
        exact hq
    · have i1 : numD (.str s) = .non := by
        have y1 : ¬ 1 ≤ s.length := by omega
        simp [numD, okNum, y1]
      have hq := hQ
      rw [i1] at hq
      simp [body, E_number, startD, isiD, isData, len_str, z1, hs]
      exact hq
  | ref a =>
    have hq := hQ
    simp [body, E_number, startD, hd]
    exact isi_ref hd rfl (fun _ => by simpa [numD] using hq) (fun _ _ z => nomatch z) (fun z => nomatch z)
  | _ => simpa [body, E_number, startD, isiD, isData, numD] using hQ

/-! ### words_of -/
abbrev splS (b s : List Nat) : List (List Nat) := TL.spl b 0 [] s
theorem split_mth {fz : Bool} {s b : List Nat} {h : PH} {Q : D → PH → Prop} (hb : b ≠ []) (hk : b.all (· < 256) = true) : mthD (.split fz) (.str s) [.str b] h Q = (b ≠ [] ∧ s.length + 2 ≤ sizeLine ∧ newL fz ((splS b s).map D.str) h Q) := by
  have e : ((Txt.split (mkS s) (mkS b)).map fun z => D.str z.cps.toList) = (splS b s).map D.str := by
    rw [SX.split_S hb hk, List.map_map]
    rfl
  simp only [mthD, e]
theorem any_nil : ∀ ps : List (List Nat), ((ps.map D.str).any fun d => eqF d (.str [])) = decide ([] ∈ ps)
  | [] => rfl
  | p :: ps => by
    rw [List.map_cons, List.any_cons, any_nil ps]
    cases p with
    | nil => simp [eqF]
    | cons a r => simp [eqF]
theorem flat_strs : ∀ ps : List (List Nat), (ps.map D.str).all flatD = true
  | [] => rfl
  | p :: ps => by rw [List.map_cons, List.all_cons, flat_strs ps] <;> rfl
theorem in_nil {h : PH} {p : Addr} {ps : List (List Nat)} {R : Bool → Prop} (e : h p = some (.lst (ps.map D.str))) : cmpD .isin (.str []) (.ref p) h R = R (decide ([] ∈ ps)) := by
  have fl : flatD (.str []) = true := rfl
  simp only [cmpD, inQ, rdQ, rdL, e, flat_strs, any_nil, fl, true_and]
theorem in_nilR {h : PH} {ps : List (List Nat)} {R : Bool → Prop} : cmpD .isin (.str []) (.rol (ps.map D.str)) h R = R (decide ([] ∈ ps)) := by
  have fl : flatD (.str []) = true := rfl
  simp only [cmpD, inQ, rdQ, rdL, flat_strs, any_nil, fl, true_and]
def rowD : D → Option (List (List Nat))
  | .str s => if [] ∈ splS [32] s then none else some (splS [32] s)
  | _ => none
def E_words : S := .cons (.ife (.lor (.cons (.lnot (.isi (.var 0) .str)) (.cons (.cmp .isin (.str []) (.mth (.split true) (.var 0) (.cons (.str [32]) .nil))) .nil))) (.cons (.ret .non) .nil) .nil) (.cons (.ret (.mth (.split true) (.var 0) (.cons (.str [32]) .nil))) .nil)
def shortD2 : D → Prop
  | .str s => s.length + 2 ≤ sizeLine
  | _ => True
/-- the words of a row -/
def rowV (d : D) : D := match rowD d with
  | some ps => .rol (ps.map .str)
  | none => .non
def spWords : DSp := fun ds h _ Q => ∃ d, ds = [d] ∧ isData d h = true ∧ shortD2 d ∧ Q (rowV d) h
theorem ext_none {h h' : PH} {p : Addr} (x : Ext h h') (n : h' p = none) : h p = none := by
  cases e : h p with
  | none => rfl
  | some o => rw [x p o e] at n; cases n
theorem b_words (sps : List DSp) (ds h xq Q) (q : spWords ds h xq Q) : body sps E_words 1 ds h xq Q := by
  obtain ⟨d, rfl, hd, hs, q1⟩ := q
  cases d with
  | str s =>
    have hs : s.length + 2 ≤ sizeLine := hs
    have sp := fun (h : PH) (Q : D → PH → Prop) => split_mth (fz := true) (s := s) (b := [32]) (h := h) (Q := Q) (by simp) (by decide)
    simp [body, E_words, startD, isiD, isData, tyB, isStr, sp, hs]
    rw [in_nilR]
    by_cases z : [] ∈ splS [32] s
    · simp [z]
      simpa [rowV, rowD, z] using q1
    · simp [z]
      simpa [rowV, rowD, z] using q1
  | ref a =>
    simp [body, E_words, startD, hd]
    exact isi_ref hd rfl (fun _ => by simpa [rowV, rowD] using q1) (fun _ _ z => nomatch z) (fun z => nomatch z)
  | _ => simpa [body, E_words, startD, isiD, isData, rowV, rowD] using q1
end Lit
/-! == of told lists; repr of what k01 and its like tell. -/
namespace Lit
open PySem PySem.Spec PyProof.Rows L2
def okC (s : List Nat) : Bool := s.all fun c => decide (c < 0x110000)
theorem okC_all {s : List Nat} (h : okC s = true) : PyData.strOk (mkS s) = true := by
  unfold PyData.strOk
  rw [← Array.all_toList]
  exact h
theorem mapM_strs {h : PH} {n : Nat} : ∀ ps : List (List Nat), (ps.map D.str).mapM (deref (n + 1) h) = some (ps.map D.str)
  | [] => rfl
  | p :: ps => by
    rw [List.map_cons, List.mapM_cons, mapM_strs ps]
    rfl
theorem deref_strs {h : PH} {p : Addr} {ps : List (List Nat)} (e : h p = some (.lst (ps.map D.str))) : deref 70 h (.ref p) = some (.rol (ps.map D.str)) := by
  show (match h p with
    | some (.lst ds) => (ds.mapM (deref 69 h)).map D.rol
    | _ => none) = _
  rw [e]
  show ((ps.map D.str).mapM (deref 69 h)).map D.rol = _
  rw [mapM_strs]
  rfl
theorem toPDs_strs : ∀ ps : List (List Nat), toPDs (ps.map D.str) = ps.map fun s => PyData.str (mkS s)
  | [] => by simp only [List.map_nil, toPDs]
  | p :: ps => by simp only [List.map_cons, toPDs, toPD, toPDs_strs ps]
theorem lay_strs : ∀ ps : List (List Nat), (ps.all okC) = true → PyData.canLayAll0 (ps.map fun s => PyData.str (mkS s)) = true
  | [], _ => by simp only [List.map_nil, PyData.canLayAll0]
  | p :: ps, h => by
    rw [List.all_cons, Bool.and_eq_true_iff] at h
    simp only [List.map_cons, PyData.canLayAll0, PyData.canLay0, okC_all h.1, lay_strs ps h.2, Bool.and_self]
theorem depth_strs : ∀ ps : List (List Nat), PyData.depthAll (ps.map fun s => PyData.str (mkS s)) = 0
  | [] => by simp only [List.map_nil, PyData.depthAll]
  | p :: ps => by simp only [List.map_cons, PyData.depthAll, PyData.depth, depth_strs ps, Nat.max_self]
theorem sane_strs {ps : List (List Nat)} (h : (ps.all okC) = true) : sane (.rol (ps.map D.str)) = true := by
  unfold sane SeqAt.shaped
  simp only [toPD, toPDs_strs, PyData.canLay0, PyData.depth, lay_strs ps h, depth_strs]
  rfl
theorem eqvAll_strs : ∀ as bs : List (List Nat), PyData.eqvAll (as.map fun s => PyData.str (mkS s)) (bs.map fun s => PyData.str (mkS s)) = decide (as = bs)
  | [], [] => by simp [PyData.eqvAll]
  | [], _ :: _ => by simp [PyData.eqvAll]
  | _ :: _, [] => by simp [PyData.eqvAll]
  | a :: as, b :: bs => by
    simp only [List.map_cons, PyData.eqvAll, PyData.eqv, eqvAll_strs as bs, List.cons.injEq]
    rw [show (mkS a == mkS b) = decide (a = b) from SX.S_beq_eq]
    simp
theorem eqv_strs (as bs : List (List Nat)) : eqv (.rol (as.map D.str)) (.rol (bs.map D.str)) = decide (as = bs) := by
  unfold eqv
  simp only [toPD, toPDs_strs, PyData.eqv, eqvAll_strs]
section
variable {h : PH} {p q : Addr} {R : Bool → Prop}
theorem deepEq_eq {x y dx dy : D} (ex : deref 70 h x = some dx) (ey : deref 70 h y = some dy) (sx : sane dx = true) (sy : sane dy = true) : deepEq h x y R = R (eqv dx dy) := by
  simp only [deepEq, ex, ey, sx, sy, true_and]
theorem eq_refs : cmpD .eq (.ref p) (.ref q) h R = deepEq h (.ref p) (.ref q) R := rfl
theorem ne_refs : cmpD .ne (.ref p) (.ref q) h R = deepEq h (.ref p) (.ref q) fun b => R (!b) := rfl
theorem eq_strs {as bs : List (List Nat)} (ea : h p = some (.lst (as.map D.str))) (eb : h q = some (.lst (bs.map D.str))) (oa : (as.all okC) = true) (ob : (bs.all okC) = true) : cmpD .eq (.ref p) (.ref q) h R = R (decide (as = bs)) := by
  rw [eq_refs, deepEq_eq (deref_strs ea) (deref_strs eb) (sane_strs oa) (sane_strs ob), eqv_strs]
theorem ne_strs {as bs : List (List Nat)} (ea : h p = some (.lst (as.map D.str))) (eb : h q = some (.lst (bs.map D.str))) (oa : (as.all okC) = true) (ob : (bs.all okC) = true) : cmpD .ne (.ref p) (.ref q) h R = R (!decide (as = bs)) := by
  rw [ne_refs, deepEq_eq (deref_strs ea) (deref_strs eb) (sane_strs oa) (sane_strs ob), eqv_strs]
/-- the parts' signs are the text's -/
theorem spl_ok {b : List Nat} : ∀ {l acc : List Nat} {k : Nat}, okC acc = true → okC l = true → (TL.spl b k acc l).all okC = true
  | [], acc, k, h1, _ => by
    rw [TL.spl_nil]
    simp [h1]
  | c :: r, acc, 0, h1, h2 => by
    have h2' : okC r = true ∧ decide (c < 0x110000) = true := by
      unfold okC at h2 ⊢
      rw [List.all_cons, Bool.and_eq_true_iff] at h2
      exact ⟨h2.2, h2.1⟩
    cases e : TL.pre b (c :: r) with
    | true =>
      rw [TL.spl_hit e, List.all_cons, h1, spl_ok (acc := []) rfl h2'.1]
      rfl
    | false =>
      rw [TL.spl_miss e]
      refine spl_ok ?_ h2'.1
      unfold okC at h1 ⊢
      rw [List.all_append, h1]
      simpa using h2'.2
  | c :: r, acc, k + 1, h1, h2 => by
    have h2' : okC r = true := by
      unfold okC at h2 ⊢
      rw [List.all_cons, Bool.and_eq_true_iff] at h2
      exact h2.2
    show (TL.spl b k acc r).all okC = true
    exact spl_ok h1 h2'
theorem splS_ok {b s : List Nat} (h : okC s = true) : (splS b s).all okC = true := spl_ok rfl h
end
end Lit
namespace Lit
open PySem PySem.Spec PyProof.Rows L2
/-- a comprehension by a word about what is left and what is had -/
theorem compLoop_inv {tg : Tg} {vs : List Nat} {cond : RT} {elt : RE} {stay : PH → Prop} {ρ : Rho} {Q : List D → PH → Prop} (Pv : List D → List D → PH → Prop) (hs : ∀ ds acc h, Pv ds acc h → stay h)
    (step : ∀ d ds acc h, Pv (d :: ds) acc h → ∃ ρ1, asg tg d (wipeR ρ vs) = some ρ1 ∧ ∀ N : List D → PH → Prop, (∀ acc' h', Pv ds acc' h' → N acc' h') → cond ρ1 h noX fun b h1 => match b with
      | true => elt ρ1 h1 noX fun y h2 => acc.length < sizeLine ∧ N (acc ++ [y]) h2
      | false => N acc h1) (fin : ∀ acc h, Pv [] acc h → Q acc h) : ∀ (ds acc : List D) (h : PH), Pv ds acc h → compLoop tg vs cond elt stay ρ ds acc h Q
  | [], acc, h, p => by
    simp only [compLoop]
    exact fin acc h p
  | d :: ds, acc, h, p => by
    obtain ⟨ρ1, e, st⟩ := step d ds acc h p
    simp only [compLoop, e]
    exact st (fun acc' h' => stay h' ∧ compLoop tg vs cond elt stay ρ ds acc' h' Q) fun acc' h' p' => ⟨hs _ _ _ p', compLoop_inv Pv hs step fin ds acc' h' p'⟩
theorem atI_in {α : Type} {l : List α} {r : Int} (h0 : 0 ≤ r) (h1 : r < l.length) : ∃ c, atI l r = some c ∧ c ∈ l := by
  have hl : r.toNat < l.length := by omega
  have e1 : ixN l.length r = some r.toNat := by
    unfold ixN
    rw [if_pos h0]
    first | rfl | rw [if_pos hl] | (rw [if_pos]; omega)
  refine ⟨l[r.toNat], ?_, List.getElem_mem hl⟩
  unfold atI
  rw [e1]
  exact List.getElem?_eq_getElem hl
theorem isData_ext {d : D} {h h' : PH} (x : Ext h h') (e : isData d h = true) : isData d h' = true := by
  cases d with
  | ref a =>
    have e : (match h a with
      | some (.lst _) => true
      | some (.dct _) => true
      | _ => false) = true := e
    show (match h' a with
      | some (.lst _) => true
      | some (.dct _) => true
      | _ => false) = true
    cases ea : h a with
    | none => rw [ea] at e; cases e
    | some o => rw [x a o ea]; rw [ea] at e; exact e
  | _ => rfl
theorem StR.ext {w : List (D × D)} {n : Int} {h h' : PH} {p : Addr} (s : StR w n h p) (x : Ext h h') : StR w n h' p := by
  obtain ⟨l, z, t, e, r⟩ := s
  exact ⟨l, z, t, x p _ e, r⟩
theorem StR.up {w : List (D × D)} {n m : Int} {h : PH} {p : Addr} (s : StR w n h p) (x : n ≤ m) : StR w m h p := by
  obtain ⟨l, z, t, e, r1, r2, r3, r4⟩ := s
  exact ⟨l, z, t, e, r1, r2, by omega, r4⟩
theorem okC_app {a b : List Nat} : okC (a ++ b) = (okC a && okC b) := by simp [okC]
theorem okC_of {a : List Nat} (h : ∀ c ∈ a, c < 128) : okC a = true := by
  unfold okC
  rw [List.all_eq_true]
  intro c hc
  have := h c hc
  exact decide_eq_true (by omega)
theorem joinL_nil : ∀ ys : List (List Nat), TL.joinL [] ys = ys.flatten
  | [] => rfl
  | [x] => by simp [TL.joinL]
  | x :: y :: r => by
    have := joinL_nil (y :: r)
    simp only [TL.joinL, List.nil_append, List.flatten_cons] at this ⊢
    rw [this]
theorem join_mth {s : List Nat} {q : Addr} {ys : List (List Nat)} {h : PH} {Q : D → PH → Prop} (e : h q = some (.lst (ys.map D.str))) : mthD .join (.str s) [.ref q] h Q = ((ys.map (·.length)).sum + ys.length * s.length ≤ 16777216 ∧ Q (.str (TL.joinL s ys)) h) := by
  have e1 : rdQ h (.ref q) = some (ys.map D.str) := by simp only [rdQ, rdL, e]
  simp only [mthD, e1, strs_str]
  have e2 : (Txt.join (mkS s) (ys.map mkS)).cps.toList = TL.joinL s ys := by rw [show Txt.join (mkS s) (ys.map mkS) = mkS (TL.joinL s ys) from SX.join_S s ys]
  rw [e2]
theorem upper_mth {s : List Nat} {h : PH} {Q : D → PH → Prop} (a : ∀ c ∈ s, c < 128) : mthD .upper (.str s) [] h Q = (s.length ≤ 5592405 ∧ Q (.str (s.map PyProof.Rows.up1)) h) := by
  have e2 : (Txt.upper (mkS s)).cps.toList = s.map PyProof.Rows.up1 := by
    rw [show Txt.upper (mkS s) = mkS (s.map PyProof.Rows.up1) from SX.upper_S (List.all_eq_true.mpr fun c hc => decide_eq_true (a c hc))]
  simp only [mthD, e2]
theorem up1_lt : ∀ c < 128, PyProof.Rows.up1 c < 128 := by decide +kernel
theorem StR.told {w : List (D × D)} {n : Int} {h : PH} {p : Addr} (s : StR w n h p) : ∃ o, h p = some o := let ⟨_, _, _, e, _⟩ := s; ⟨_, e⟩
theorem StR.ne {w : List (D × D)} {n : Int} {h : PH} {p q : Addr} (s : StR w n h p) (e : h q = none) : q ≠ p := fun z => by
  obtain ⟨o, t⟩ := StR.told s
  rw [z, t] at e
  cases e
/-- a text of plain signs -/
def Wd (n : Nat) (s : List Nat) : Prop := (∀ c ∈ s, c < 128) ∧ s.length ≤ n
theorem Wd.ok {n : Nat} {s : List Nat} (w : Wd n s) : okC s = true := okC_of w.1
theorem Wd.app {n m : Nat} {s t : List Nat} (a : Wd n s) (b : Wd m t) : Wd (n + m) (s ++ t) := ⟨fun c hc => (List.mem_append.mp hc).elim (a.1 c) (b.1 c), by have := a.2; have := b.2; rw [List.length_append]; omega⟩
theorem Wd.up {n m : Nat} {s : List Nat} (a : Wd n s) (h : n ≤ m) : Wd m s := ⟨a.1, Nat.le_trans a.2 h⟩
theorem ext_put {h h1 h2 : PH} {a : Addr} (x : Ext h h1) (y : ExtBut a h1 h2) (n : h a = none) : Ext h h2 := fun b u e => y b u (fun z => by rw [z, n] at e; cases e) (x b u e)
/-- texts of one sign -/
theorem flat_sigs : ∀ {ys : List (List Nat)}, (∀ y ∈ ys, ∃ c, y = [c] ∧ c < 128) → (∀ c ∈ ys.flatten, c < 128) ∧ ys.flatten.length = ys.length ∧ (ys.map (·.length)).sum = ys.length
  | [], _ => ⟨by simp, rfl, rfl⟩
  | y :: ys, h => by
    obtain ⟨c, rfl, hc⟩ := h y (by simp)
    obtain ⟨a, b, d⟩ := flat_sigs (ys := ys) fun z hz => h z (by simp [hz])
    refine ⟨?_, by simp only [List.flatten_cons, List.length_append, b, List.length_cons, List.length_nil]; omega, by simp only [List.map_cons, List.sum_cons, d, List.length_cons, List.length_nil]; omega⟩
    intro x hx
    simp only [List.flatten_cons, List.mem_append, List.mem_singleton] at hx
    rcases hx with rfl | hx
    · exact hc
    · exact a x hx
theorem rdL_ref {h : PH} {p : Addr} {ds : List D} (e : h p = some (.lst ds)) : rdL h (.ref p) = some ds := by simp only [rdL, e]
theorem rdM_ref {h : PH} {p : Addr} {ds : List D} (e : h p = some (.lst ds)) : rdM h (.ref p) = some ds := by simp only [rdM, e]
theorem Wd.cut {n : Nat} {s : List Nat} {lo hi : Option Int} (w : Wd n s) : Wd n (cutL s lo hi) :=
  ⟨fun c hc => w.1 c (List.mem_of_mem_drop (List.mem_of_mem_take hc)), by unfold cutL; rw [List.length_take, List.length_drop]; have := w.2; omega⟩
theorem sl_str {fz : Bool} {s : List Nat} {lo hi : Option Int} {h : PH} {Q : D → PH → Prop} : slD fz (.str s) lo hi h Q = (s.length ≤ sizeLine ∧ Q (.str (cutL s lo hi)) h) := rfl
theorem append_mth {p : Addr} {y : D} {ds : List D} {h : PH} {Q : D → PH → Prop} (e : h p = some (.lst ds)) : mthD .append (.ref p) [y] h Q = (ds.length < sizeLine ∧ put p (.lst (ds ++ [y])) h fun h' => Q .non h') := by simp only [mthD, e]
theorem tyB_append {p : Addr} {ds : List D} {h : PH} (e : h p = some (.lst ds)) : tyB .append (.ref p) h = true := by simp only [tyB, rdM, e, Option.isSome_some]
theorem mapM_flat {h : PH} {n : Nat} : ∀ {ds : List D}, ds.all flatD = true → ds.mapM (deref (n + 1) h) = some ds
  | [], _ => rfl
  | d :: ds, f => by
    rw [List.all_cons, Bool.and_eq_true_iff] at f
    have e : deref (n + 1) h d = some d := by cases d <;> first | rfl | cases f.1
    rw [List.mapM_cons, e, mapM_flat f.2]
    rfl
theorem deref_flat {h : PH} {p : Addr} {ds : List D} (e : h p = some (.lst ds)) (f : ds.all flatD = true) : deref 70 h (.ref p) = some (.rol ds) := by
  show (match h p with
    | some (.lst ds) => (ds.mapM (deref 69 h)).map D.rol
    | _ => none) = _
  rw [e]
  show (ds.mapM (deref 69 h)).map D.rol = _
  rw [mapM_flat f]
  rfl
/-- repr of a told list of flat things -/
theorem repr_lst {h : PH} {p : Addr} {ds : List D} {z : List Nat} {Q : D → PH → Prop} (e : h p = some (.lst ds)) (f : ds.all flatD = true)
    (a : (((toPD (.rol ds)).showable = true ∧ (toPD (.rol ds)).depth ≤ 60) ∧ ((toPD (.rol ds)).hasDict = false ∧ (toPD (.rol ds)).shown.length ≤ sizeLine)) ∧ (toPD (.rol ds)).shown.cps.toList = z) : b1D .repr (.ref p) h Q = Q (.str z) h := by
  obtain ⟨⟨⟨a1, a2⟩, a3, a4⟩, a5⟩ := a
  simp only [b1D, deref_flat e f, a1, a2, a3, a4, a5, true_and]
theorem pairs_mem : ∀ {xs ys : List D} {d : D}, d ∈ pairsD xs ys → ∃ x ∈ xs, ∃ y ∈ ys, d = .tup [x, y]
  | [], _, _, h => by simp [pairsD] at h
  | _ :: _, [], _, h => by simp [pairsD] at h
  | x :: xs, y :: ys, d, h => by
    rcases List.mem_cons.mp (show d ∈ D.tup [x, y] :: pairsD xs ys from h) with rfl | h
    · exact ⟨x, by simp, y, by simp, rfl⟩
    · obtain ⟨a, ha, b, hb, e⟩ := pairs_mem h
      exact ⟨a, by simp [ha], b, by simp [hb], e⟩
theorem nats_mem {n : Nat} {d : D} (h : d ∈ natsD n) : ∃ k : Nat, d = .int k ∧ k < n := by
  simp only [natsD, List.mem_map, List.mem_range] at h
  obtain ⟨k, hk, rfl⟩ := h
  exact ⟨k, rfl, hk⟩
theorem cut_map {α β : Type} (f : α → β) (l : List α) (lo hi : Option Int) : cutL (l.map f) lo hi = (cutL l lo hi).map f := by
  unfold cutL
  rw [List.length_map, ← List.map_drop, ← List.map_take]
theorem cut_to {α : Type} {l : List α} {n : Nat} : (cutL l none (some (n : Int))).length ≤ n := by
  unfold cutL
  rw [List.length_take]
  have : HT.sIx l.length l.length (some (n : Int)) ≤ n := by
    unfold HT.sIx
    simp only []
    split <;> omega
  omega
end Lit
/-! Values without places; == of them; trees. -/
namespace Lit
open PySem PySem.Spec PyProof.Rows L2
mutual
/-- no places in it, texts of good signs -/
def pur : D → Bool
  | .ref _ => false
  | .str s => okC s
  | .tup ds => purs ds
  | .rol ds => purs ds
  | _ => true
def purs : List D → Bool
  | [] => true
  | d :: ds => pur d && purs ds
end
mutual
def dep : D → Nat
  | .tup ds => deps ds + 1
  | .rol ds => deps ds + 1
  | _ => 0
def deps : List D → Nat
  | [] => 0
  | d :: ds => max (dep d) (deps ds)
end
mutual
/-- no truths in it -/
def nob : D → Bool
  | .bl _ => false
  | .tup ds => nobs ds
  | .rol ds => nobs ds
  | _ => true
def nobs : List D → Bool
  | [] => true
  | d :: ds => nob d && nobs ds
end
mutual
theorem deref_pur {h : PH} : ∀ (n : Nat) (d : D), pur d = true → dep d < n → deref n h d = some d
  | 0, _, _, l => absurd l (Nat.not_lt_zero _)
  | n + 1, .non, _, _ => rfl
  | n + 1, .bl _, _, _ => rfl
  | n + 1, .int _, _, _ => rfl
  | n + 1, .str _, _, _ => rfl
  | n + 1, .ref _, p, _ => by simp only [pur] at p; cases p
  | n + 1, .tup ds, p, l => by
    simp only [pur, dep] at p l
    show (ds.mapM (deref n h)).map D.tup = _
    rw [derefs_pur n ds p (by omega)]
    rfl
  | n + 1, .rol ds, p, l => by
    simp only [pur, dep] at p l
    show (ds.mapM (deref n h)).map D.rol = _
    rw [derefs_pur n ds p (by omega)]
    rfl
theorem derefs_pur {h : PH} : ∀ (n : Nat) (ds : List D), purs ds = true → (deps ds < n ∨ ds = []) → ds.mapM (deref n h) = some ds
  | _, [], _, _ => rfl
  | n, d :: ds, p, l => by
    simp only [purs, Bool.and_eq_true_iff] at p
    have l' : deps (d :: ds) < n := by
      rcases l with l | l
      · exact l
      · cases l
    simp only [deps] at l'
    rw [List.mapM_cons, deref_pur n d p.1 (by omega), derefs_pur n ds p.2 (.inl (by omega))]
    rfl
end
mutual
theorem depth_pd : ∀ d : D, (toPD d).depth ≤ dep d
  | .non => by simp [toPD, PyData.depth]
  | .bl _ => by simp [toPD, PyData.depth]
  | .int _ => by simp [toPD, PyData.depth]
  | .str _ => by simp [toPD, PyData.depth]
  | .ref _ => by simp [toPD, PyData.depth]
  | .tup ds => by
    have := depths_pd ds
    simp only [toPD, PyData.depth, dep]
    omega
  | .rol ds => by
    have := depths_pd ds
    simp only [toPD, PyData.depth, dep]
    omega
theorem depths_pd : ∀ ds : List D, PyData.depthAll (toPDs ds) ≤ deps ds
  | [] => by simp [toPDs, PyData.depthAll]
  | d :: ds => by
    have h1 := depth_pd d
    have h2 := depths_pd ds
    simp only [toPDs, PyData.depthAll, deps]
    omega
end
mutual
theorem lay_pur : ∀ d : D, pur d = true → (toPD d).canLay0 = true
  | .non, _ => by simp [toPD, PyData.canLay0]
  | .bl _, _ => by simp [toPD, PyData.canLay0]
  | .int _, _ => by simp [toPD, PyData.canLay0]
  | .str _, p => by
    simp only [pur] at p
    simp only [toPD, PyData.canLay0]
    exact okC_all p
  | .ref _, p => by simp only [pur] at p; cases p
  | .tup ds, p => by
    simp only [pur] at p
    simp only [toPD, PyData.canLay0]
    exact lays_pur ds p
  | .rol ds, p => by
    simp only [pur] at p
    simp only [toPD, PyData.canLay0]
    exact lays_pur ds p
theorem lays_pur : ∀ ds : List D, purs ds = true → PyData.canLayAll0 (toPDs ds) = true
  | [], _ => by simp [toPDs, PyData.canLayAll0]
  | d :: ds, p => by
    simp only [purs, Bool.and_eq_true_iff] at p
    simp only [toPDs, PyData.canLayAll0, lay_pur d p.1, lays_pur ds p.2, Bool.and_self]
end
theorem sane_pur {d : D} (p : pur d = true) (l : dep d ≤ 64) : sane d = true := by
  unfold sane SeqAt.shaped
  rw [lay_pur d p, Bool.true_and]
  exact decide_eq_true (Nat.le_trans (depth_pd d) l)
mutual
theorem eqv_nob : ∀ (a b : D), pur a = true → pur b = true → nob a = true → nob b = true → (eqv a b = true ↔ a = b)
  | .ref _, _, p, _, _, _ => by simp only [pur] at p; cases p
  | .bl _, _, _, _, n, _ => by simp only [nob] at n; cases n
  | .non, b, _, q, _, m => by cases b <;> simp [eqv, toPD, PyData.eqv, pur, nob] at q m ⊢
  | .int i, b, _, q, _, m => by cases b <;> simp [eqv, toPD, PyData.eqv, pur, nob] at q m ⊢
  | .str s, b, _, q, _, m => by
    cases b with
    | str t =>
      simp only [eqv, toPD, PyData.eqv]
      rw [show (mkS s == mkS t) = decide (s = t) from SX.S_beq_eq]
      simp
    | _ => simp [eqv, toPD, PyData.eqv, pur, nob] at q m ⊢
  | .tup as, b, p, q, n, m => by
    cases b with
    | tup bs =>
      simp only [pur, nob] at p q n m
      simp only [eqv, toPD, PyData.eqv]
      rw [eqvs_nob as bs p q n m]
      simp
    | _ => simp [eqv, toPD, PyData.eqv, pur, nob] at q m ⊢
  | .rol as, b, p, q, n, m => by
    cases b with
    | rol bs =>
      simp only [pur, nob] at p q n m
      simp only [eqv, toPD, PyData.eqv]
      rw [eqvs_nob as bs p q n m]
      simp
    | _ => simp [eqv, toPD, PyData.eqv, pur, nob] at q m ⊢
theorem eqvs_nob : ∀ (as bs : List D), purs as = true → purs bs = true → nobs as = true → nobs bs = true → (PyData.eqvAll (toPDs as) (toPDs bs) = true ↔ as = bs)
  | [], [], _, _, _, _ => by simp [toPDs, PyData.eqvAll]
  | [], _ :: _, _, _, _, _ => by simp [toPDs, PyData.eqvAll]
  | _ :: _, [], _, _, _, _ => by simp [toPDs, PyData.eqvAll]
  | a :: as, b :: bs, p, q, n, m => by
    simp only [purs, nobs, Bool.and_eq_true_iff] at p q n m
    have h1 := eqv_nob a b p.1 q.1 n.1 m.1
    have h2 := eqvs_nob as bs p.2 q.2 n.2 m.2
    simp only [toPDs, PyData.eqvAll, Bool.and_eq_true_iff]
    unfold eqv at h1
    rw [h1, h2]
    simp
end
/-- good values: == is = -/
structure Gd (d : D) : Prop where
  p : pur d = true
  n : nob d = true
  l : dep d ≤ 64
noncomputable instance decD : DecidableEq D := fun _ _ => Classical.propDecidable _
theorem deepEq_gd {x y : D} (a : Gd x) (b : Gd y) {h : PH} {R : Bool → Prop} : deepEq h x y R = R (decide (x = y)) := by
  rw [deepEq_eq (deref_pur 70 x a.p (by have := a.l; omega)) (deref_pur 70 y b.p (by have := b.l; omega)) (sane_pur a.p a.l) (sane_pur b.p b.l)]
  congr 1
  have := eqv_nob x y a.p b.p a.n b.n
  cases e : eqv x y with
  | true => rw [this.mp e]; simp
  | false =>
    have : ¬ x = y := fun z => by rw [this.mpr z] at e; cases e
    simp [this]
theorem eqQ_gd {x y : D} (a : Gd x) (b : Gd y) {h : PH} {R : Bool → Prop} : eqQ h x y R = R (decide (x = y)) := by
  unfold eqQ
  split
  · simp
  · simp
  · exact deepEq_gd a b
theorem cmp_eqG {x y : D} (a : Gd x) (b : Gd y) {h : PH} {R : Bool → Prop} : cmpD .eq x y h R = R (decide (x = y)) := eqQ_gd a b
theorem cmp_neG {x y : D} (a : Gd x) (b : Gd y) {h : PH} {R : Bool → Prop} : cmpD .ne x y h R = R (!decide (x = y)) := eqQ_gd (R := fun b => R (!b)) a b
theorem cmp_eqLG {p : Addr} {xs : List D} {y : D} {h : PH} (e : h p = some (.lst xs)) (a : Gd (.rol xs)) (b : Gd y) {R : Bool → Prop} : cmpD .eq (.ref p) y h R = R (decide (D.rol xs = y)) := by
  have d1 : deref 70 h (.ref p) = some (.rol xs) := by
    have := deref_pur (h := h) 70 (.rol xs) a.p (by have := a.l; omega)
    show (match h p with
      | some (.lst ds) => (ds.mapM (deref 69 h)).map D.rol
      | _ => none) = _
    rw [e]
    exact this
  show deepEq h (.ref p) y R = _
  rw [deepEq_eq d1 (deref_pur 70 y b.p (by have := b.l; omega)) (sane_pur a.p a.l) (sane_pur b.p b.l), ← deepEq_eq (h := h) (R := R) (deref_pur 70 (.rol xs) a.p (by have := a.l; omega)) (deref_pur 70 y b.p (by have := b.l; omega)) (sane_pur a.p a.l) (sane_pur b.p b.l)]
  exact deepEq_gd a b
theorem cmp_neLG {p : Addr} {xs : List D} {y : D} {h : PH} (e : h p = some (.lst xs)) (a : Gd (.rol xs)) (b : Gd y) {R : Bool → Prop} : cmpD .ne (.ref p) y h R = R (!decide (D.rol xs = y)) :=
  cmp_eqLG (R := fun b => R (!b)) e a b
end Lit
/-! Trees of parts: the program's own looks at them. -/
namespace Lit
open PySem PySem.Spec PyProof.Rows L2
mutual
/-- things of which isinstance may be asked, all through tuples -/
def dat (h : PH) : D → Prop
  | .ref a => (∃ ds, h a = some (.lst ds)) ∨ ∃ ks, h a = some (.dct ks)
  | .str s => s.length ≤ sizeLine
  | .tup ds => dats h ds
  | _ => True
def dats (h : PH) : List D → Prop
  | [] => True
  | d :: ds => dat h d ∧ dats h ds
end
mutual
theorem dat.ext {h h' : PH} (x : Ext h h') : ∀ {d : D}, dat h d → dat h' d
  | .non, _ => by simp only [dat]
  | .bl _, _ => by simp only [dat]
  | .int _, _ => by simp only [dat]
  | .rol _, _ => by simp only [dat]
  | .str _, q => by simp only [dat] at q ⊢; exact q
  | .ref a, q => by
    simp only [dat] at q ⊢
    rcases q with ⟨ds, e⟩ | ⟨ks, e⟩
    · exact .inl ⟨ds, x a _ e⟩
    · exact .inr ⟨ks, x a _ e⟩
  | .tup ds, q => by simp only [dat] at q ⊢; exact dats.ext x q
theorem dats.ext {h h' : PH} (x : Ext h h') : ∀ {ds : List D}, dats h ds → dats h' ds
  | [], _ => by simp only [dats]
  | d :: ds, q => by simp only [dats] at q ⊢; exact ⟨dat.ext x q.1, dats.ext x q.2⟩
end
theorem dats.mem {h : PH} : ∀ {ds : List D}, dats h ds → ∀ d ∈ ds, dat h d
  | d :: ds, q, e, m => by
    simp only [dats] at q
    rcases List.mem_cons.mp m with rfl | m
    · exact q.1
    · exact dats.mem q.2 e m
theorem dats.of {h : PH} : ∀ {ds : List D}, (∀ d ∈ ds, dat h d) → dats h ds
  | [], _ => by simp only [dats]
  | d :: ds, q => by simp only [dats]; exact ⟨q d (by simp), dats.of fun e m => q e (by simp [m])⟩
theorem dat.isData {h : PH} {d : D} (q : dat h d) : isData d h = true := by
  cases d with
  | ref a =>
    simp only [dat] at q
    rcases q with ⟨ds, e⟩ | ⟨ks, e⟩ <;> simp [Lit.isData, e]
  | _ => rfl
theorem dat.short {h : PH} {d : D} (q : dat h d) : shortD d := by
  cases d <;> simp only [dat, shortD] at q ⊢
  exact q
def isTupD : D → Bool
  | .tup _ => true
  | _ => false
theorem isi_tup {h : PH} {d : D} {Q : Bool → Prop} (q : dat h d) : isiD .tuple d h Q = Q (isTupD d) := by
  cases d with
  | ref a =>
    simp only [dat] at q
    rcases q with ⟨ds, e⟩ | ⟨ks, e⟩ <;> simp [isiD, e, isTupD]
  | _ => rfl
/-! ### parts_looked -/
/-- the sum of what f tells, none where it tells 0 of one -/
def pls (f : D → Nat) : List D → Option Nat
  | [] => some 0
  | k :: ks => if f k = 0 then none else (pls f ks).map (f k + ·)
/-- how many parts a thing has, at most so deep -/
def pl : Nat → D → Nat
  | n + 1, .tup [w, .tup ks] => if isN w = true then (match pls (pl n) ks with
    | some r => 1 + r
    | none => 0) else 0
  | _, _ => 0
def isT (d : D) : Bool := decide (1 ≤ pl 8 d) && decide (pl 8 d ≤ 60)
def E_lookB (iL : Nat) : S := .cons (.set (.nm 4) (.call iL (.cons (.var 3) (.cons (.op true .sub (.var 1) (.int 1)) .nil)))) (.cons (.ife (.cmp .eq (.var 4) (.int 0)) (.cons (.ret (.int 0)) .nil) .nil) (.cons (.set (.nm 2) (.op true .add (.var 2) (.var 4))) .nil))
def E_look (iN iL : Nat) : S := .cons (.ife (.lor (.cons (.cmp .eq (.var 1) (.int 0)) (.cons (.lnot (.isi (.var 0) .tuple)) (.cons (.cmp .ne (.b1 .len (.var 0)) (.int 2)) (.cons (.lnot (.call iN (.cons (.ix (.var 0) (.int 0)) .nil))) .nil))))) (.cons (.ret (.int 0)) .nil) .nil)
  (.cons (.ife (.lnot (.isi (.ix (.var 0) (.int 1)) .tuple)) (.cons (.ret (.int 0)) .nil) .nil) (.cons (.set (.nm 2) (.int 1)) (.cons (.for_ (.itL (.ix (.var 0) (.int 1))) (.nm 3) (E_lookB iL)) (.cons (.ret (.var 2)) .nil))))
def spLook (d : Nat) : DSp := fun ds h _ Q => ∃ (x : D) (n : Nat), ds = [x, .int n] ∧ n < d ∧ dat h x ∧ Q (.int (pl n x : Nat)) h
theorem b_look (sps : List DSp) (iN iL d : Nat) (eN : sps[iN]? = some spName) (eL : sps[iL]? = some (spLook d)) (ds h xq Q) (q : spLook (d + 1) ds h xq Q) : body sps (E_look iN iL) 5 ds h xq Q := by
  obtain ⟨x, n, rfl, hn, dx, hQ⟩ := q
  have idx := dx.isData
  simp [body, E_look, startD]
  cases n with
  | zero =>
    simp
    simpa [pl] using hQ
  | succ n =>
    have ne : ¬ ((n : Int) + 1 = 0) := by omega
    simp [ne, idx, isi_tup dx]
    cases x with
    | tup es =>
      simp [isTupD, b1D]
      by_cases l2 : es.length = 2
      · match es, l2 with
        | [w, ks], _ =>
          simp only [dat, dats] at dx
          obtain ⟨dw, dk, _⟩ := dx
          have a0 : atI [w, ks] 0 = some w := by simp [atI, ixN]
          have a1 : atI [w, ks] 1 = some ks := by simp [atI, ixN]
          simp [ixD, a0, a1]
          refine spAt_ok eN ⟨w, rfl, dw.isData, dw.short, ?_⟩
          cases ew : isN w with
          | false =>
            simp
            have : pl (n + 1) (.tup [w, ks]) = 0 := by
              cases ks <;> simp [pl, ew]
            rw [this] at hQ
            exact hQ
          | true =>
            simp
            refine ⟨dk.isData, ?_⟩
            rw [isi_tup dk]
            cases ks with
            | tup ks =>
              simp [isTupD]
              simp only [dat] at dk
              have hQ' : Q (.int ((match pls (pl n) ks with
                | some r => 1 + r
                | none => 0 : Nat) : Int)) h := by simpa [pl, ew] using hQ
              refine forLoop_inv (fun l ρ h' => h' = h ∧ dats h l ∧ ∃ (acc : Nat) (a3 a4 : Option D), ρ = [some (.tup [w, .tup ks]), some (.int ((n : Int) + 1)), some (.int (acc : Nat)), a3, a4] ∧ Q (.int ((match pls (pl n) l with
                | some r => acc + r
                | none => 0 : Nat) : Int)) h) (fun _ _ _ _ => trivial) ?_ ?_ _ _ _ ⟨rfl, dk, 1, none, none, rfl, hQ'⟩
              · rintro k l ρ h' ⟨rfl, dl, acc, a3, a4, rfl, hq⟩
                simp only [dats] at dl
                refine ⟨_, asg_nm, fun N hN => ?_⟩
                simp [E_lookB]
                refine spAt_ok eL ⟨k, n, by simp, by omega, dl.1, ?_⟩
                by_cases z : pl n k = 0
                · simp [z]
                  simpa [pls, z] using hq
                · simp [z]
                  refine hN _ _ ⟨rfl, dl.2, acc + pl n k, _, _, by rw [Int.natCast_add], ?_⟩
                  simp only [pls, z, if_false] at hq
                  cases e : pls (pl n) l with
                  | none => simpa [e] using hq
                  | some r =>
                    rw [e] at hq
                    simp only [Option.map_some] at hq
                    show Q (.int ((acc + pl n k + r : Nat) : Int)) h'
                    rw [Nat.add_assoc]
                    exact hq
              · rintro ρ h' ⟨rfl, _, acc, a3, a4, rfl, hq⟩
                simpa [pls] using hq
            | _ =>
              simp [isTupD]
              simpa [pl] using hQ
      · have l2' : ¬ ((es.length : Int) = 2) := by omega
        simp [l2']
        have : pl (n + 1) (.tup es) = 0 := by
          unfold pl
          split
          · rename_i e1 e2
            simp at e2
            rw [e2] at l2
            simp at l2
          · rfl
        rw [this] at hQ
        exact hQ
    | _ =>
      simp [isTupD]
      simpa [pl] using hQ
/-! ### trees -/
inductive T where | node (w : List Nat) (ks : List T)
namespace T
def word : T → List Nat
  | node w _ => w
def kids : T → List T
  | node _ ks => ks
end T
mutual
def enc : T → D
  | .node w ks => .tup [.str w, .tup (encs ks)]
def encs : List T → List D
  | [] => []
  | k :: ks => enc k :: encs ks
end
mutual
def size : T → Nat
  | .node _ ks => 1 + sizes ks
def sizes : List T → Nat
  | [] => 0
  | k :: ks => size k + sizes ks
end
mutual
def dpt : T → Nat
  | .node _ ks => 1 + dpts ks
def dpts : List T → Nat
  | [] => 0
  | k :: ks => max (dpt k) (dpts ks)
end
mutual
/-- all its words are names -/
def wok : T → Bool
  | .node w ks => isN (.str w) && woks ks
def woks : List T → Bool
  | [] => true
  | k :: ks => wok k && woks ks
end
structure GT (t : T) : Prop where
  w : wok t = true
  d : dpt t ≤ 8
  s : size t ≤ 60
theorem encs_map : ∀ ks : List T, encs ks = ks.map enc
  | [] => rfl
  | k :: ks => by simp only [encs, List.map_cons, encs_map ks]
theorem size_pos (t : T) : 1 ≤ size t := by cases t; simp only [size]; omega
theorem dpt_pos (t : T) : 1 ≤ dpt t := by cases t; simp only [dpt]; omega
mutual
theorem pl_enc : ∀ (t : T) (n : Nat), wok t = true → dpt t ≤ n → pl n (enc t) = size t
  | .node w ks, 0, _, d => by simp only [dpt] at d; omega
  | .node w ks, n + 1, q, d => by
    simp only [wok, Bool.and_eq_true_iff] at q
    simp only [dpt] at d
    simp only [enc, pl, q.1, if_true, pls_enc ks n q.2 (by omega), size]
theorem pls_enc : ∀ (ks : List T) (n : Nat), woks ks = true → dpts ks ≤ n → pls (pl n) (encs ks) = some (sizes ks)
  | [], _, _, _ => rfl
  | k :: ks, n, q, d => by
    simp only [woks, Bool.and_eq_true_iff] at q
    simp only [dpts] at d
    have h1 := pl_enc k n q.1 (by omega)
    have h2 := size_pos k
    simp only [encs, pls, h1, show ¬ size k = 0 by omega, if_false, pls_enc ks n q.2 (by omega), Option.map_some, sizes]
end
theorem isN_str {w : D} (h : isN w = true) : ∃ s, w = .str s := by
  cases w <;> first | exact ⟨_, rfl⟩ | (simp [isN] at h; done)
theorem pl_dec : ∀ (n : Nat) (x : D), 1 ≤ pl n x → ∃ t, x = enc t ∧ wok t = true ∧ dpt t ≤ n ∧ pl n x = size t
  | 0, x, h => by cases x <;> simp [pl] at h
  | n + 1, x, h => by
    unfold pl at h
    split at h
    · rename_i n' w ks e2
      cases e2
      by_cases ew : isN w = true
      · rw [if_pos ew] at h
        obtain ⟨s, rfl⟩ := isN_str ew
        have go : ∀ ks : List D, ∀ r, pls (pl n) ks = some r → ∃ ts, ks = encs ts ∧ woks ts = true ∧ dpts ts ≤ n ∧ r = sizes ts := fun ks => by
          induction ks with
          | nil => intro r e; cases e; exact ⟨[], rfl, rfl, Nat.zero_le _, rfl⟩
          | cons k ks ih =>
            intro r e
            simp only [pls] at e
            by_cases z : pl n k = 0
            · rw [if_pos z] at e; cases e
            · rw [if_neg z] at e
              cases e2 : pls (pl n) ks with
              | none => rw [e2] at e; cases e
              | some r2 =>
                rw [e2] at e
                cases e
                obtain ⟨ts, h1, h2, h3, h4⟩ := ih r2 e2
                obtain ⟨t, g1, g2, g3, g4⟩ := pl_dec n k (by omega)
                refine ⟨t :: ts, by simp only [encs, g1, h1], by simp only [woks, g2, h2, Bool.and_self], by simp only [dpts]; omega, ?_⟩
                simp only [sizes, g4, h4]
        cases e2 : pls (pl n) ks with
        | none => rw [e2] at h; simp at h
        | some r =>
          obtain ⟨ts, h1, h2, h3, h4⟩ := go ks r e2
          refine ⟨.node s ts, by simp only [enc, h1], by simp only [wok, ew, h2, Bool.and_self], by simp only [dpt]; omega, ?_⟩
          simp only [pl, ew, if_true, e2, size, h4]
      · rw [if_neg ew] at h; omega
    · omega
theorem isT_enc {t : T} (g : GT t) : isT (enc t) = true := by
  have h1 := pl_enc t 8 g.w g.d
  have h2 := size_pos t
  have h3 := g.s
  simp only [isT, h1, Bool.and_eq_true_iff, decide_eq_true_eq]
  omega
theorem isT_dec {x : D} (h : isT x = true) : ∃ t, x = enc t ∧ GT t := by
  simp only [isT, Bool.and_eq_true_iff, decide_eq_true_eq] at h
  obtain ⟨t, h1, h2, h3, h4⟩ := pl_dec 8 x h.1
  exact ⟨t, h1, h2, h3, by omega⟩
theorem lets_lt : ∀ c ∈ lets, c < 128 := by decide
theorem isN_len {s : List Nat} (h : isN (.str s) = true) : 1 ≤ s.length ∧ s.length ≤ 8 ∧ ∀ c ∈ s, c ∈ lets := by
  simp only [isN, Bool.and_eq_true_iff, decide_eq_true_eq, List.all_eq_true] at h
  exact ⟨h.1.1, h.1.2, h.2⟩
mutual
theorem dat_enc {h : PH} : ∀ t : T, wok t = true → dat h (enc t)
  | .node w ks, q => by
    simp only [wok, Bool.and_eq_true_iff] at q
    have := isN_len q.1
    simp only [enc, dat, dats, and_true]
    exact ⟨by rw [sz]; omega, dats_encs ks q.2⟩
theorem dats_encs {h : PH} : ∀ ks : List T, woks ks = true → dats h (encs ks)
  | [], _ => by simp only [encs, dats]
  | k :: ks, q => by
    simp only [woks, Bool.and_eq_true_iff] at q
    simp only [encs, dats]
    exact ⟨dat_enc k q.1, dats_encs ks q.2⟩
end
mutual
theorem pur_enc : ∀ t : T, wok t = true → pur (enc t) = true
  | .node w ks, q => by
    simp only [wok, Bool.and_eq_true_iff] at q
    have h1 := isN_len q.1
    have h2 : okC w = true := okC_of fun c hc => lets_lt c (h1.2.2 c hc)
    simp only [enc, pur, purs, h2, purs_encs ks q.2, Bool.and_self]
theorem purs_encs : ∀ ks : List T, woks ks = true → purs (encs ks) = true
  | [], _ => rfl
  | k :: ks, q => by
    simp only [woks, Bool.and_eq_true_iff] at q
    simp only [encs, purs, pur_enc k q.1, purs_encs ks q.2, Bool.and_self]
end
mutual
theorem nob_enc : ∀ t : T, nob (enc t) = true
  | .node w ks => by simp only [enc, nob, nobs, nobs_encs ks, Bool.and_self]
theorem nobs_encs : ∀ ks : List T, nobs (encs ks) = true
  | [] => rfl
  | k :: ks => by simp only [encs, nobs, nob_enc k, nobs_encs ks, Bool.and_self]
end
mutual
theorem dep_enc : ∀ t : T, dep (enc t) ≤ 2 * dpt t
  | .node w ks => by
    have := deps_encs ks
    simp only [enc, dep, deps, dpt]
    omega
theorem deps_encs : ∀ ks : List T, deps (encs ks) ≤ 2 * dpts ks
  | [] => by simp [encs, deps]
  | k :: ks => by
    have h1 := dep_enc k
    have h2 := deps_encs ks
    simp only [encs, deps, dpts]
    omega
end
theorem gd_enc {t : T} (w : wok t = true) (d : dpt t ≤ 8) : Gd (enc t) := ⟨pur_enc t w, nob_enc t, by have := dep_enc t; omega⟩
mutual
theorem enc_inj : ∀ (t u : T), enc t = enc u → t = u
  | .node w ks, .node v js, e => by
    simp only [enc, D.tup.injEq, List.cons.injEq, D.str.injEq, and_true] at e
    rw [e.1, encs_inj ks js e.2]
theorem encs_inj : ∀ (ts us : List T), encs ts = encs us → ts = us
  | [], [], _ => rfl
  | [], _ :: _, e => by simp only [encs] at e; cases e
  | _ :: _, [], e => by simp only [encs] at e; cases e
  | t :: ts, u :: us, e => by
    simp only [encs, List.cons.injEq] at e
    rw [enc_inj t u e.1, encs_inj ts us e.2]
end
/-! ### is_tree, need_tree -/
def E_tree (iL : Nat) : S := .cons (.ret (.chain .le .le (.int 1) (.call iL (.cons (.var 0) (.cons (.gint "MOST_DEEP" 8) .nil))) (.gint "MOST_PARTS" 60))) .nil
def spTree : DSp := fun ds h _ Q => ∃ x : D, ds = [x] ∧ dat h x ∧ Q (.bl (isT x)) h
theorem b_tree (sps : List DSp) (iL d : Nat) (hd : 8 < d) (eL : sps[iL]? = some (spLook d)) (ds h xq Q) (q : spTree ds h xq Q) : body sps (E_tree iL) 1 ds h xq Q := by
  obtain ⟨x, rfl, dx, hQ⟩ := q
  simp [body, E_tree, startD]
  refine spAt_ok eL ⟨x, 8, rfl, hd, dx, ?_⟩
  simp
  by_cases z : (1 : Int) ≤ (pl 8 x : Nat)
  · have z' : 1 ≤ pl 8 x := by omega
    have z2 : ((pl 8 x : Nat) : Int) ≤ 60 ↔ pl 8 x ≤ 60 := by omega
    simp [z, z2]
    simpa [isT, z'] using hQ
  · have z' : ¬ 1 ≤ pl 8 x := by omega
    simp [z]
    simpa [isT, z'] using hQ
def E_need (iT : Nat) : S := .cons (.ife (.lnot (.call iT (.cons (.var 0) .nil))) (.cons (.raise "BadTree" [] .nil) .nil) .nil) .nil
def spNeed : DSp := fun ds h xq Q => ∃ x : D, ds = [x] ∧ dat h x ∧ (isT x = true → Q .non h) ∧ (isT x = false → xq ⟨"BadTree", []⟩ h)
theorem b_need (sps : List DSp) (iT : Nat) (eT : sps[iT]? = some spTree) (ds h xq Q) (q : spNeed ds h xq Q) : body sps (E_need iT) 1 ds h xq Q := by
  obtain ⟨x, rfl, dx, q1, q2⟩ := q
  simp [body, E_need, startD]
  refine spAt_ok eT ⟨x, rfl, dx, ?_⟩
  cases e : isT x with
  | true => simpa using q1 e
  | false => simpa using q2 e
/-! ### comprehensions that leave the heap -/
theorem compLoop_pure {α : Type} {tg : Tg} {vs : List Nat} {cond : RT} {elt : RE} {stay : PH → Prop} {ρ : Rho} {Q : List D → PH → Prop} {h : PH} (e : α → D) (g : α → Option D) (hs : stay h) :
    ∀ (xs : List α) (acc : List D), (∀ x ∈ xs, ∃ ρ1, asg tg (e x) (wipeR ρ vs) = some ρ1 ∧ ∀ N : Option D → PH → Prop, N (g x) h → cond ρ1 h noX fun b h1 => match b with
      | true => elt ρ1 h1 noX fun y h2 => N (some y) h2
      | false => N none h1) → acc.length + xs.length ≤ sizeLine → Q (acc ++ xs.filterMap g) h → compLoop tg vs cond elt stay ρ (xs.map e) acc h Q
  | [], acc, _, _, q => by simpa [compLoop] using q
  | x :: xs, acc, step, len, q => by
    obtain ⟨ρ1, ea, turn⟩ := step x (by simp)
    simp only [List.length_cons] at len
    simp only [List.map_cons, compLoop, ea]
    refine turn (fun o h' => match o with
      | some y => acc.length < sizeLine ∧ stay h' ∧ compLoop tg vs cond elt stay ρ (xs.map e) (acc ++ [y]) h' Q
      | none => stay h' ∧ compLoop tg vs cond elt stay ρ (xs.map e) acc h' Q) ?_
    cases ex : g x with
    | none =>
      rw [List.filterMap_cons_none ex] at q
      exact ⟨hs, compLoop_pure e g hs xs acc (fun y hy => step y (by simp [hy])) (by omega) q⟩
    | some y =>
      rw [List.filterMap_cons_some ex] at q
      exact ⟨by omega, hs, compLoop_pure e g hs xs (acc ++ [y]) (fun z hz => step z (by simp [hz])) (by simp; omega) (by simpa using q)⟩
theorem fm_all {α : Type} (f : α → D) (xs : List α) : xs.filterMap (fun x => some (f x)) = xs.map f := fm_some f xs
/-! ### count_in, deep_in -/
theorem sum_sizes : ∀ ks : List T, (ks.map fun k => ((size k : Nat) : Int)).sum = ((sizes ks : Nat) : Int)
  | [] => rfl
  | k :: ks => by simp only [List.map_cons, List.sum_cons, sum_sizes ks, sizes, Int.natCast_add]
def E_count (i : Nat) : S := .cons (.ret (.op true .add (.int 1) (.b1 .sum (.comp true (.itL (.ix (.var 0) (.int 1))) (.nm 1) [1] .nil (.call i (.cons (.var 1) .nil)))))) .nil
def spCount (d : Nat) : DSp := fun ds h _ Q => ∃ t : T, ds = [enc t] ∧ dpt t ≤ d ∧ size t ≤ sizeLine ∧ Q (.int (size t : Nat)) h
theorem len_sizes : ∀ ks : List T, ks.length ≤ sizes ks
  | [] => Nat.zero_le _
  | k :: ks => by
    have h1 := len_sizes ks
    have h2 := size_pos k
    simp only [List.length_cons, sizes]
    omega
theorem mem_sizes : ∀ {ks : List T} {k : T}, k ∈ ks → size k ≤ sizes ks ∧ dpt k ≤ dpts ks
  | k :: ks, j, m => by
    simp only [sizes, dpts]
    rcases List.mem_cons.mp m with rfl | m
    · omega
    · have := mem_sizes m
      omega
theorem b_count (sps : List DSp) (i d : Nat) (e : sps[i]? = some (spCount d)) (ds h xq Q) (q : spCount (d + 1) ds h xq Q) : body sps (E_count i) 2 ds h xq Q := by
  obtain ⟨t, rfl, hd, hz, hQ⟩ := q
  cases t with
  | node w ks =>
    simp only [dpt, size] at hd hz
    have a1 : atI [D.str w, .tup (encs ks)] 1 = some (.tup (encs ks)) := by simp [atI, ixN]
    simp [body, E_count, startD, enc, ixD, a1]
    rw [encs_map]
    have lk := len_sizes ks
    refine compLoop_pure enc (fun k => some (.int (size k : Nat))) trivial ks [] (fun k hk => ⟨_, asg_nm, fun N hN => ?_⟩) (by simp; omega) ?_
    · have mk := mem_sizes hk
      simp [wipeR]
      exact spAt_ok e ⟨k, rfl, by omega, by omega, hN⟩
    · rw [fm_all]
      have im : (ks.map fun k => D.int ((size k : Nat) : Int)) = (ks.map fun k => ((size k : Nat) : Int)).map D.int := by rw [List.map_map]; rfl
      simp only [List.nil_append, newL_t, b1D, rdL_rol, im, ints_int, bin_addI, sum_sizes]
      simpa [size] using hQ
theorem max_dpts : ∀ (ks : List T) (m : Nat), maxI (m : Int) (ks.map fun k => ((dpt k : Nat) : Int)) = ((max m (dpts ks) : Nat) : Int)
  | [], m => by simp [maxI, dpts]
  | k :: ks, m => by
    simp only [List.map_cons, maxI, dpts]
    by_cases z : (m : Int) < (dpt k : Nat)
    · rw [if_pos z, max_dpts ks]
      congr 1
      omega
    · rw [if_neg z, max_dpts ks]
      congr 1
      omega
def E_deep (i : Nat) : S := .cons (.ret (.op true .add (.int 1) (.b1 .maxL (.op true .add (.lst true (.cons (.int 0) .nil)) (.comp true (.itL (.ix (.var 0) (.int 1))) (.nm 1) [1] .nil (.call i (.cons (.var 1) .nil))))))) .nil
def spDeep (d : Nat) : DSp := fun ds h _ Q => ∃ t : T, ds = [enc t] ∧ dpt t ≤ d ∧ size t < sizeLine ∧ Q (.int (dpt t : Nat)) h
theorem b_deep (sps : List DSp) (i d : Nat) (e : sps[i]? = some (spDeep d)) (ds h xq Q) (q : spDeep (d + 1) ds h xq Q) : body sps (E_deep i) 2 ds h xq Q := by
  obtain ⟨t, rfl, hd, hz, hQ⟩ := q
  cases t with
  | node w ks =>
    simp only [dpt, size] at hd hz
    have a1 : atI [D.str w, .tup (encs ks)] 1 = some (.tup (encs ks)) := by simp [atI, ixN]
    simp [body, E_deep, startD, enc, ixD, a1]
    rw [encs_map]
    have lk := len_sizes ks
    refine ⟨by rw [sz]; omega, ?_⟩
    refine compLoop_pure enc (fun k => some (.int (dpt k : Nat))) trivial ks [] (fun k hk => ⟨_, asg_nm, fun N hN => ?_⟩) (by simp; omega) ?_
    · have mk := mem_sizes hk
      simp [wipeR]
      exact spAt_ok e ⟨k, rfl, by omega, by omega, hN⟩
    · rw [fm_all]
      have im : D.int 0 :: (ks.map fun k => D.int ((dpt k : Nat) : Int)) = ((0 : Int) :: (ks.map fun k => ((dpt k : Nat) : Int))).map D.int := by simp
      simp only [List.nil_append, newL_t, bin_addRR, List.singleton_append, b1D, rdQ_rol, im, ints_int, bin_addI]
      have m0 := max_dpts ks 0
      simp only [Int.natCast_zero] at m0
      rw [m0]
      refine ⟨by simp; omega, ?_⟩
      simpa [dpt] using hQ
/-! ### found_at -/
def walkT : T → List D → Option T
  | t, [] => some t
  | .node _ ks, .int k :: is => if 0 ≤ k then (match ks[k.toNat]? with
    | some u => walkT u is
    | none => none) else none
  | _, _ :: _ => none
/-- the part at a place, of anything -/
def fa (t : T) : D → Option T
  | .tup is => walkT t is
  | _ => none
def optD : Option T → D
  | some t => enc t
  | none => .non
def E_found (iA : Nat) : S := .cons (.ife (.lnot (.isi (.var 1) .tuple)) (.cons (.ret .non) .nil) .nil) (.cons (.set (.nm 2) (.var 0)) (.cons (.for_ (.itL (.var 1)) (.nm 3) (.cons (.ife (.lnot (.call iA (.cons (.var 3) (.cons (.int 0) (.cons (.op true .sub (.b1 .len (.ix (.var 2) (.int 1))) (.int 1)) .nil))))) (.cons (.ret .non) .nil) .nil) (.cons (.set (.nm 2) (.ix (.ix (.var 2) (.int 1)) (.var 3))) .nil)))
  (.cons (.ret (.var 2)) .nil)))
def spFound : DSp := fun ds h _ Q => ∃ (t : T) (x : D), ds = [enc t, x] ∧ dat h x ∧ Q (optD (fa t x)) h
theorem atI_nat' {α : Type} {l : List α} {k : Int} (h0 : 0 ≤ k) : atI l k = l[k.toNat]? := by
  unfold atI ixN
  rw [if_pos h0]
  by_cases z : k < (l.length : Int)
  · rw [if_pos z]
    rfl
  · rw [if_neg z]
    exact (List.getElem?_eq_none (by omega)).symm
theorem encs_get (ks : List T) (n : Nat) : (encs ks)[n]? = (ks[n]?).map enc := by rw [encs_map, List.getElem?_map]
theorem encs_len (ks : List T) : (encs ks).length = ks.length := by rw [encs_map, List.length_map]
theorem b_found (sps : List DSp) (iA : Nat) (eA : sps[iA]? = some spAmong) (ds h xq Q) (q : spFound ds h xq Q) : body sps (E_found iA) 4 ds h xq Q := by
  obtain ⟨t, x, rfl, dx, hQ⟩ := q
  simp [body, E_found, startD, dx.isData, isi_tup dx]
  cases x with
  | tup is =>
    simp [isTupD]
    simp only [dat] at dx
    refine forLoop_inv (fun l ρ h' => h' = h ∧ dats h l ∧ ∃ (u : T) (a3 : Option D), ρ = [some (enc t), some (.tup is), some (enc u), a3] ∧ Q (optD (walkT u l)) h) (fun _ _ _ _ => trivial) ?_ ?_ _ _ _ ⟨rfl, dx, t, none, rfl, hQ⟩
    · rintro i l ρ h' ⟨rfl, dl, u, a3, rfl, hq⟩
      simp only [dats] at dl
      refine ⟨_, asg_nm, fun N hN => ?_⟩
      cases u with
      | node w ks =>
        have a1 : atI [D.str w, .tup (encs ks)] 1 = some (.tup (encs ks)) := by simp [atI, ixN]
        simp [enc, ixD, a1, b1D, encs_len]
        refine spAt_ok eA ⟨i, 0, _, rfl, dl.1.isData, ?_⟩
        cases i with
        | int k =>
          by_cases h0 : 0 ≤ k
          · by_cases h1 : k ≤ (ks.length : Int) - 1
            · have hk : k.toNat < ks.length := by omega
              obtain ⟨v, hv⟩ : ∃ v, ks[k.toNat]? = some v := ⟨_, List.getElem?_eq_getElem hk⟩
              simp [isA, h0, h1, enc, ixD, a1, atI_nat' h0, encs_get, hv]
              simp only [walkT, h0, if_true, hv] at hq
              exact hN _ _ ⟨rfl, dl.2, v, _, rfl, hq⟩
            · have hv : ks[k.toNat]? = none := List.getElem?_eq_none (by omega)
              simp [isA, h0, h1]
              simpa [walkT, h0, hv, optD] using hq
          · simp [isA, h0]
            simpa [walkT, h0, optD] using hq
        | _ =>
          simp [isA]
          simpa [walkT, optD] using hq
    · rintro ρ h' ⟨rfl, _, u, a3, rfl, hq⟩
      simpa [walkT, optD] using hq
  | _ =>
    simp [isTupD]
    simpa [fa, optD] using hQ
/-! ### part_at, many_at -/
def E_part (iN iF : Nat) : S := .cons (.expr (.call iN (.cons (.var 0) .nil))) (.cons (.set (.nm 2) (.call iF (.cons (.var 0) (.cons (.var 1) .nil)))) (.cons (.ife (.cmp .is (.var 2) .non) (.cons (.raise "OutOfPlace" [] .nil) .nil) .nil) (.cons (.ret (.var 2)) .nil)))
def spPartAt : DSp := fun ds h xq Q => ∃ (t : T) (x : D), ds = [enc t, x] ∧ GT t ∧ dat h x ∧ (∀ u, fa t x = some u → Q (enc u) h) ∧ (fa t x = none → xq ⟨"OutOfPlace", []⟩ h)
theorem b_part (sps : List DSp) (iN iF : Nat) (eN : sps[iN]? = some spNeed) (eF : sps[iF]? = some spFound) (ds h xq Q) (q : spPartAt ds h xq Q) : body sps (E_part iN iF) 3 ds h xq Q := by
  obtain ⟨t, x, rfl, g, dx, q1, q2⟩ := q
  simp [body, E_part, startD]
  refine spAt_ok eN ⟨enc t, rfl, dat_enc t g.w, fun _ => ?_, fun z => by rw [isT_enc g] at z; cases z⟩
  refine spAt_ok eF ⟨t, x, rfl, dx, ?_⟩
  cases e : fa t x with
  | none =>
    simp [optD, noneD]
    exact q2 e
  | some u =>
    cases u with
    | node w ks =>
      simp [optD, enc, noneD]
      exact q1 _ e
def E_many (iP : Nat) : S := .cons (.ret (.b1 .len (.ix (.call iP (.cons (.var 0) (.cons (.var 1) .nil))) (.int 1)))) .nil
def spManyAt : DSp := fun ds h xq Q => ∃ (t : T) (x : D), ds = [enc t, x] ∧ GT t ∧ dat h x ∧ (∀ u, fa t x = some u → Q (.int (u.kids.length : Nat)) h) ∧ (fa t x = none → xq ⟨"OutOfPlace", []⟩ h)
theorem b_many (sps : List DSp) (iP : Nat) (eP : sps[iP]? = some spPartAt) (ds h xq Q) (q : spManyAt ds h xq Q) : body sps (E_many iP) 2 ds h xq Q := by
  obtain ⟨t, x, rfl, g, dx, q1, q2⟩ := q
  simp [body, E_many, startD]
  refine spAt_ok eP ⟨t, x, rfl, g, dx, fun u e => ?_, q2⟩
  cases u with
  | node w ks =>
    have a1 : atI [D.str w, .tup (encs ks)] 1 = some (.tup (encs ks)) := by simp [atI, ixN]
    simp [enc, ixD, a1, b1D, encs_len]
    exact q1 _ e
end Lit
/-! Defs that keep their promises, one behind another. -/
namespace Lit
open PySem PySem.Spec PyProof.Rows L2
/-- the def of that name keeps sp, at most k deep -/
def Okd (P : Program) (w : World) (K : PySem.W.Frag) (mg : Str → Option Value) (base : Heap) (k : Nat) (p : (Str × Option Str) × DSp) : Prop :=
  ∃ fa fd ps j, j + lvl p.1 ≤ k ∧ FAt K mg p.1 fa ∧ FnG P w K mg base j fa fd ps (liftSp K p.2) ∧ Binds K fd ps []
def AllOk (P : Program) (w : World) (K : PySem.W.Frag) (mg : Str → Option Value) (base : Heap) (k : Nat) : List ((Str × Option Str) × DSp) → Prop
  | [] => True
  | p :: r => Okd P w K mg base k p ∧ AllOk P w K mg base k r
section
variable {P : Program} {w : World} {K : PySem.W.Frag} {mg : Str → Option Value} {base : Heap} {k : Nat}
theorem Okd.up {p : (Str × Option Str) × DSp} {j : Nat} (o : Okd P w K mg base j p) (h : j ≤ k) : Okd P w K mg base k p :=
  let ⟨a, b, c, i, hi, r⟩ := o
  ⟨a, b, c, i, Nat.le_trans hi h, r⟩
theorem AllOk.up {j : Nat} (h : j ≤ k) : ∀ {l : List ((Str × Option Str) × DSp)}, AllOk P w K mg base j l → AllOk P w K mg base k l
  | [], _ => trivial
  | _ :: _, ⟨a, b⟩ => ⟨a.up h, b.up h⟩
theorem AllOk.get : ∀ {l : List ((Str × Option Str) × DSp)}, AllOk P w K mg base k l → ∀ (i : Nat) (p : (Str × Option Str) × DSp), l[i]? = some p → Okd P w K mg base k p
  | [], _, i, p, e => by simp at e
  | q :: l, ⟨a, b⟩, 0, p, e => by simp at e; subst e; exact a
  | q :: l, ⟨a, b⟩, i + 1, p, e => b.get i p (by simpa using e)
theorem AllOk.snoc : ∀ {l : List ((Str × Option Str) × DSp)} {p : (Str × Option Str) × DSp}, AllOk P w K mg base k l → Okd P w K mg base k p → AllOk P w K mg base k (l ++ [p])
  | [], _, _, o => ⟨o, trivial⟩
  | _ :: _, _, ⟨a, b⟩, o => ⟨a, b.snoc o⟩
/-- own __init__s of refusals -/
def Own (P : Program) (w : World) (K : PySem.W.Frag) (mg : Str → Option Value) (base : Heap) (k : Nat) (l : List Str) : Prop := ∀ x ∈ l, ∀ fs, iniF.lookup x = some fs → 2 ≤ k ∧ OwnI P w K mg base x fs
theorem Own.up {j : Nat} {l : List Str} (o : Own P w K mg base j l) (h : j ≤ k) : Own P w K mg base k l := fun x hx fs e => ⟨Nat.le_trans (o x hx fs e).1 h, (o x hx fs e).2⟩
theorem Own.nil : Own P w K mg base k [] := fun _ hx => nomatch hx
theorem Own.cons0 {x : Str} {l : List Str} (o : Own P w K mg base k l) (h : iniF.lookup x = none) : Own P w K mg base k (x :: l) := fun y hy fs e => by
  rcases List.mem_cons.mp hy with rfl | hy
  · rw [h] at e; cases e
  · exact o y hy fs e
theorem Own.cons {x : Str} {fs : List Str} {l : List Str} (o : Own P w K mg base k l) (h : iniF.lookup x = some fs) (hk : 2 ≤ k) (O : OwnI P w K mg base x fs) : Own P w K mg base k (x :: l) := fun y hy gs e => by
  rcases List.mem_cons.mp hy with rfl | hy
  · rw [h] at e; cases e; exact ⟨hk, O⟩
  · exact o y hy gs e
theorem pr_of {fns : List ((Str × Option Str) × DSp)} {gi : List (Str × Int)} {gs : List (Str × List Nat)} {bl : List Str} (a : AllOk P w K mg base k fns) (hb : ∀ x ∈ bl, mg x = none) (hi : ∀ x i, (x, i) ∈ gi → ∃ t, mg x = some (.int i t)) (hs : ∀ x s, (x, s) ∈ gs → ∃ t, mg x = some (.str (mkS s) t)) {ex : List Str} (hx : ∀ x ∈ ex, ExK K mg x) (hp : ∀ x ∈ ex, ∀ y ∈ ex, ExP K x y) {cl fl : List Str} (hcl : ∀ x ∈ cl, ClK K fl x) (how : Own P w K mg base k ex)
    {gt : List (Str × List (List Nat))} (hgt : ∀ x ss, (x, ss) ∈ gt → ∃ a, mg x = some (.ref a) ∧ KTp K a ss) {gd : List (Str × List (List Nat × List (List Nat)))} (hgd : ∀ x kvs, (x, kvs) ∈ gd → ∃ a, mg x = some (.ref a) ∧ KDx K w a kvs) :
    Pr P w K mg base k ⟨fns, gi, gs, bl, ex, cl, fl, gt, gd⟩ := ⟨fun i f sp e => a.get i _ e, hb, hi, hs, hx, hp, hcl, how, hgt, hgd⟩
/-- the next def -/
theorem okd_of {x : Str} {pa : Arguments} {bd : List Stmt} {sc : Scope} {fd : FuncData} {N ps : List Str} {fns : List ((Str × Option Str) × DSp)} {gi : List (Str × Int)} {gs : List (Str × List Nat)} {bl : List Str} {e : S} {sp : DSp}
    (F : FunD K x x pa bd sc [] [] (He.ga K x) fd) (hm : mg x = some (.ref (He.ga K x))) (Fs : C8.scC N ps sc = true) (a : AllOk P w K mg base k fns) (hb : ∀ x ∈ bl, mg x = none) (hi : ∀ x i, (x, i) ∈ gi → ∃ t, mg x = some (.int i t)) (hs : ∀ x s, (x, s) ∈ gs → ∃ t, mg x = some (.str (mkS s) t))
    {ex : List Str} (hx : ∀ x ∈ ex, ExK K mg x) (hp : ∀ x ∈ ex, ∀ y ∈ ex, ExP K x y) {cl fl : List Str} (hcl : ∀ x ∈ cl, ClK K fl x) (how : Own P w K mg base k ex) {gt : List (Str × List (List Nat))} (hgt : ∀ x ss, (x, ss) ∈ gt → ∃ a, mg x = some (.ref a) ∧ KTp K a ss) {gd : List (Str × List (List Nat × List (List Nat)))} (hgd : ∀ x kvs, (x, kvs) ∈ gd → ∃ a, mg x = some (.ref a) ∧ KDx K w a kvs) (hc : chkSs ⟨N, fns.map (·.1), gi, gs, bl, ex, cl, fl, gt, gd⟩ sc e bd = true) (bi : Binds K fd ps []) (hl : ∀ ds h xq Q, sp ds h xq Q → ds.length = ps.length) (hq : ∀ ds h xq Q, sp ds h xq Q → body (fns.map (·.2)) e N.length ds h xq Q) :
    FnG P w K mg base (k + 1) (He.ga K x) fd ps (liftSp K sp) ∧ Okd P w K mg base (k + 1) ((x, none), sp) := by
  have G : FnG P w K mg base (k + 1) (He.ga K x) fd ps (liftSp K sp) := def_ok F (C8.fnScope_by Fs) (pr_of a hb hi hs hx hp hcl how hgt hgd) hc hl hq
  exact ⟨G, _, _, _, _, Nat.le_refl _, ⟨hm, F.kp⟩, G, bi⟩
/-- the next method, or __init__ -/
theorem okd_m {x ql cn m : Str} {fa : Addr} {pa : Arguments} {bd : List Stmt} {sc : Scope} {fd : FuncData} {N ps : List Str} {fns : List ((Str × Option Str) × DSp)} {gi : List (Str × Int)} {gs : List (Str × List Nat)} {bl : List Str} {e : S} {sp : DSp}
    (F : FunD K x ql pa bd sc [] [] fa fd) (hm : FAt K mg (cn, some m) fa) (Fs : C8.scC N ps sc = true) (a : AllOk P w K mg base k fns) (hb : ∀ x ∈ bl, mg x = none) (hi : ∀ x i, (x, i) ∈ gi → ∃ t, mg x = some (.int i t)) (hs : ∀ x s, (x, s) ∈ gs → ∃ t, mg x = some (.str (mkS s) t))
    {ex : List Str} (hx : ∀ x ∈ ex, ExK K mg x) (hp : ∀ x ∈ ex, ∀ y ∈ ex, ExP K x y) {cl fl : List Str} (hcl : ∀ x ∈ cl, ClK K fl x) (how : Own P w K mg base k ex) {gt : List (Str × List (List Nat))} (hgt : ∀ x ss, (x, ss) ∈ gt → ∃ a, mg x = some (.ref a) ∧ KTp K a ss) {gd : List (Str × List (List Nat × List (List Nat)))} (hgd : ∀ x kvs, (x, kvs) ∈ gd → ∃ a, mg x = some (.ref a) ∧ KDx K w a kvs) (hc : chkSs ⟨N, fns.map (·.1), gi, gs, bl, ex, cl, fl, gt, gd⟩ sc e bd = true) (bi : Binds K fd ps []) (hl : ∀ ds h xq Q, sp ds h xq Q → ds.length = ps.length) (hq : ∀ ds h xq Q, sp ds h xq Q → body (fns.map (·.2)) e N.length ds h xq Q) :
    FnG P w K mg base (k + 1) fa fd ps (liftSp K sp) ∧ Okd P w K mg base (k + 2) ((cn, some m), sp) := by
  have G : FnG P w K mg base (k + 1) fa fd ps (liftSp K sp) := def_ok F (C8.fnScope_by Fs) (pr_of a hb hi hs hx hp hcl how hgt hgd) hc hl hq
  refine ⟨G, _, _, _, k + 1, ?_, hm, G, bi⟩
  show k + 1 + lvl (cn, some m) ≤ k + 2
  unfold lvl
  split <;> omega
/-- the next def, that calls itself: its promise by the depth -/
theorem okd_rec {x : Str} {pa : Arguments} {bd : List Stmt} {sc : Scope} {fd : FuncData} {N ps : List Str} {fns : List ((Str × Option Str) × DSp)} {gi : List (Str × Int)} {gs : List (Str × List Nat)} {bl : List Str} {e : S} {sp : Nat → DSp}
    (F : FunD K x x pa bd sc [] [] (He.ga K x) fd) (hm : mg x = some (.ref (He.ga K x))) (Fs : C8.scC N ps sc = true) (a : AllOk P w K mg base k fns) (hb : ∀ x ∈ bl, mg x = none) (hi : ∀ x i, (x, i) ∈ gi → ∃ t, mg x = some (.int i t)) (hs : ∀ x s, (x, s) ∈ gs → ∃ t, mg x = some (.str (mkS s) t))
    {ex : List Str} (hx : ∀ x ∈ ex, ExK K mg x) (hp : ∀ x ∈ ex, ∀ y ∈ ex, ExP K x y) {cl fl : List Str} (hcl : ∀ x ∈ cl, ClK K fl x) (how : Own P w K mg base k ex) {gt : List (Str × List (List Nat))} (hgt : ∀ x ss, (x, ss) ∈ gt → ∃ a, mg x = some (.ref a) ∧ KTp K a ss) {gd : List (Str × List (List Nat × List (List Nat)))} (hgd : ∀ x kvs, (x, kvs) ∈ gd → ∃ a, mg x = some (.ref a) ∧ KDx K w a kvs) (hc : chkSs ⟨N, fns.map (·.1) ++ [(x, none)], gi, gs, bl, ex, cl, fl, gt, gd⟩ sc e bd = true) (bi : Binds K fd ps []) (hl : ∀ d ds h xq Q, sp d ds h xq Q → ds.length = ps.length) (h0 : ∀ ds h xq Q, ¬ sp 0 ds h xq Q)
    (hq : ∀ d ds h xq Q, sp (d + 1) ds h xq Q → body (fns.map (·.2) ++ [sp d]) e N.length ds h xq Q) (D : Nat) :
    FnG P w K mg base (k + D) (He.ga K x) fd ps (liftSp K (sp D)) ∧ Okd P w K mg base (k + D) ((x, none), sp D) := by
  have G : FnG P w K mg base (k + D) (He.ga K x) fd ps (liftSp K (sp D)) := by
    induction D with
    | zero =>
      refine ⟨fun vs H Q E ⟨ds, h, X0, Q0, r, _, q, _⟩ => absurd q (h0 _ _ _ _), ?_⟩
      rintro A ou s H args us vs Q E _ _ _ _ _ ⟨ds, h, X0, Q0, r, _, q, _⟩
      exact absurd q (h0 _ _ _ _)
    | succ d ih =>
      have a2 : AllOk P w K mg base (k + d) (fns ++ [((x, none), sp d)]) := (a.up (Nat.le_add_right _ _)).snoc ⟨_, _, _, _, Nat.le_refl _, ⟨hm, F.kp⟩, ih, bi⟩
      have pr := pr_of a2 hb hi hs hx hp hcl (how.up (Nat.le_add_right _ _)) hgt hgd
      refine def_ok (e := e) F (C8.fnScope_by Fs) pr ?_ (hl (d + 1)) fun ds h xq Q q => ?_
      · have e1 : (fns ++ [((x, none), sp d)]).map Prod.fst = fns.map Prod.fst ++ [(x, none)] := by simp
        show chkSs ⟨N, (fns ++ [((x, none), sp d)]).map Prod.fst, gi, gs, bl, ex, cl, fl, gt, gd⟩ sc e bd = true
        rw [e1]
        exact hc
      · have e2 : (fns ++ [((x, none), sp d)]).map Prod.snd = fns.map Prod.snd ++ [sp d] := by simp
        have := hq d ds h xq Q q
        show rdS ((fns ++ [((x, none), sp d)]).map Prod.snd) _ _ _ _
        rw [e2]
        exact this
  exact ⟨G, _, _, _, _, Nat.le_refl _, ⟨hm, F.kp⟩, G, bi⟩
end
/-- a class's body -/
def clsBody : Stmt → List Stmt
  | .ClassDef _ _ _ b _ _ _ _ _ _ _ => b
  | _ => []
/-- facts of names by a look -/
def isFree (x : Str) : He.Fa → Bool
  | .free y => decide (y = x)
  | _ => false
def isInt (x : Str) (i : Int) : He.Fa → Bool
  | .int y j => decide (y = x) && decide (j = i)
  | _ => false
def isTxt (x : Str) (s : Str) : He.Fa → Bool
  | .str y j => decide (y = x) && decide (j = s)
  | _ => false
section
variable {K : PySem.W.Frag} {h : Heap} {mg : Str → Option Value} {fa : List He.Fa} {fn : List He.DefD}
theorem says_mem (c : He.SaysD fa fn K) {f : He.Fa} (m : f ∈ fa) : f.ok K = true := by
  obtain ⟨i, hi, e⟩ := List.mem_iff_getElem.mp m
  exact c.fact i (by rw [List.getElem?_eq_getElem hi, e])
theorem blt_of (X : K.In h) (G : h.Ns mainGlobals mg) (c : He.SaysD fa fn K) {bl : List Str} (m : (bl.all fun x => fa.any (isFree x)) = true) : ∀ x ∈ bl, mg x = none := fun x hx => by
  obtain ⟨f, hf, e⟩ := List.any_eq_true.mp (List.all_eq_true.mp m x hx)
  have z := says_mem c hf
  cases f with
  | free y =>
    cases of_decide_eq_true (show decide (y = x) = true from e)
    exact He.free_ok X G z
  | _ => cases e
theorem gis_of (X : K.In h) (G : h.Ns mainGlobals mg) (c : He.SaysD fa fn K) {l : List (Str × Int)} (m : (l.all fun p => fa.any (isInt p.1 p.2)) = true) : ∀ x i, (x, i) ∈ l → ∃ t, mg x = some (.int i t) := fun x v hx => by
  obtain ⟨f, hf, e⟩ := List.any_eq_true.mp (List.all_eq_true.mp m _ hx)
  have z := says_mem c hf
  cases f with
  | int y j =>
    obtain ⟨e1, e2⟩ := Bool.and_eq_true_iff.mp (show (decide (y = x) && decide (j = v)) = true from e)
    cases of_decide_eq_true e1
    cases of_decide_eq_true e2
    exact He.int_ok X G z
  | _ => cases e
theorem gss_of (X : K.In h) (G : h.Ns mainGlobals mg) (c : He.SaysD fa fn K) {l : List (Str × List Nat)} (m : (l.all fun p => fa.any (isTxt p.1 (mkS p.2))) = true) : ∀ x s, (x, s) ∈ l → ∃ t, mg x = some (.str (mkS s) t) := fun x v hx => by
  obtain ⟨f, hf, e⟩ := List.any_eq_true.mp (List.all_eq_true.mp m _ hx)
  have z := says_mem c hf
  cases f with
  | str y j =>
    obtain ⟨e1, e2⟩ := Bool.and_eq_true_iff.mp (show (decide (y = x) && decide (j = mkS v)) = true from e)
    cases of_decide_eq_true e1
    cases of_decide_eq_true e2
    exact He.str_ok X G z
  | _ => cases e
def isExc (x : Str) : He.Fa → Bool
  | .exc y => decide (y = x)
  | _ => false
def isGlo (x : Str) : He.Fa → Bool
  | .glo y => decide (y = x)
  | _ => false
/-- how instances of the class are asked, by a look -/
def exaB (K : PySem.W.Frag) (D : Addr) : Bool := (PySem.W.clsIn K D).isSome && He.eqO (PySem.W.findIn K (.ref D) "__getattribute__") (some (some (.builtin "BaseException.__getattribute__"))) && He.eqO (PySem.W.findIn K (.ref D) "__getattr__") (some none) &&
  decide (PySem.W.subIn K (.ref D) (.type "BaseException") = some true) && He.eqO (PySem.W.findIn K (.ref D) "__class__") (some (some (.builtin "object.__class__"))) && He.eqO (PySem.W.specialIn K (.builtin "object.__class__") "__get__") (some (some (.builtin "getset_descriptor.__get__"))) &&
  decide (PySem.W.takesIn K (.builtin "object.__class__") = some true) && decide (PySem.W.mroIn K D (.type "object") = some true) && PySem.W.hasDictIn K D && decide (PySem.W.kitOne K (.ref D) (.type "ValueError") = some true) && xFlds.all fun f => He.eqO (PySem.W.findIn K (.ref D) f) (some none)
theorem exaB_ok {K : PySem.W.Frag} {D : Addr} (h : exaB K D = true) : ExA K D := by
  simp only [exaB, Bool.and_eq_true_iff] at h
  obtain ⟨⟨⟨⟨⟨⟨⟨⟨⟨⟨h1, h2⟩, h3⟩, h4⟩, h5⟩, h6⟩, h7⟩, h8⟩, h9⟩, h10⟩, h11⟩ := h
  exact ⟨h1, He.eqO_ok h2, He.eqO_ok h3, of_decide_eq_true h4, He.eqO_ok h5, He.eqO_ok h6, of_decide_eq_true h7, of_decide_eq_true h8, h9, of_decide_eq_true h10, fun f hf => He.eqO_ok (List.all_eq_true.mp h11 f hf)⟩
def expB (K : PySem.W.Frag) (x y : Str) : Bool := decide (PySem.W.exmOne K (.ref (He.ga K x)) (.ref (He.ga K y)) = some (subE x y)) && decide (PySem.W.kitOne K (.ref (He.ga K x)) (.ref (He.ga K y)) = some (subE x y))
def exkB (K : PySem.W.Frag) (x : Str) : Bool := PySem.W.keepIn K (.ref (He.ga K x)) && decide (PySem.W.typeIn K (.ref (He.ga K x)) = some (.type "type")) && (!(pExs.contains x) || PySem.W.excIn K (He.ga K x) He.veBase "ValueError.__new__") && exaB K (He.ga K x)
def owniB (K : PySem.W.Frag) (x : Str) (fs : List Str) : Bool := oexB K (He.ga K x) && He.eqO (PySem.W.findIn K (.ref (He.ga K x)) "__init__") (some (some (.ref (He.ma K (He.ga K x) "__init__")))) && decide (PySem.W.typeIn K (.ref (He.ma K (He.ga K x) "__init__")) = some (.type "function")) && fs.all fun f => He.eqO (PySem.W.findIn K (.ref (He.ga K x)) f) (some none)
def owB (K : PySem.W.Frag) (x : Str) : Bool := match iniF.lookup x with
  | some fs => owniB K x fs && meB K (He.ga K "MarkError")
  | none => true
def exsB (l : List Str) (K : PySem.W.Frag) : Bool := ((l.all fun x => exkB K x) && l.all fun x => l.all fun y => expB K x y) && l.all fun x => owB K x
theorem exk_of (X : K.In h) (G : h.Ns mainGlobals mg) (c : He.SaysD fa fn K) {l : List Str} (m : (l.all fun x => fa.any (isGlo x)) = true) (b : exsB l K = true) : ∀ x ∈ l, ExK K mg x := fun x hx => by
  obtain ⟨f2, hf2, e2⟩ := List.any_eq_true.mp (List.all_eq_true.mp m x hx)
  have z2 := says_mem c hf2
  have z3 := List.all_eq_true.mp (Bool.and_eq_true_iff.mp (Bool.and_eq_true_iff.mp b).1).1 x hx
  simp only [exkB, Bool.and_eq_true_iff] at z3
  obtain ⟨⟨⟨k, t⟩, n⟩, a⟩ := z3
  have a := exaB_ok a
  cases f2 with
  | glo y =>
    cases of_decide_eq_true (show decide (y = x) = true from e2)
    refine ⟨He.glo_ok X G z2, fun hp => ?_, k, a.sb, of_decide_eq_true t, a⟩
    rw [hp] at n
    simpa using n
  | _ => cases e2
theorem exp_of {l : List Str} (b : exsB l K = true) : ∀ x ∈ l, ∀ y ∈ l, ExP K x y := fun x hx y hy => by
  have z := List.all_eq_true.mp (List.all_eq_true.mp (Bool.and_eq_true_iff.mp (Bool.and_eq_true_iff.mp b).1).2 x hx) y hy
  obtain ⟨z1, z2⟩ := Bool.and_eq_true_iff.mp z
  exact ⟨of_decide_eq_true z1, of_decide_eq_true z2⟩
theorem own_of {P : Program} {w : World} {base : Heap} {l : List Str} {x ql : Str} {fs : List Str} {pa : Arguments} {bd : List Stmt} {sc : Scope} {fd : FuncData} (b : exsB l K = true) (hx : x ∈ l) (hi : iniF.lookup x = some fs)
    (F : FunD K "__init__" ql pa bd sc [] [] (He.ma K (He.ga K x) "__init__") fd) (S : C8.scC ("self" :: fs) ("self" :: fs) sc = true) (hb : iniB sc fs bd = true) (hm : mg "MarkError" = some (.ref (He.ga K "MarkError"))) (bi : Binds K fd ("self" :: fs) []) : OwnI P w K mg base x fs := by
  have z := List.all_eq_true.mp (Bool.and_eq_true_iff.mp b).2 x hx
  unfold owB at z
  rw [hi] at z
  simp only [owniB, Bool.and_eq_true_iff] at z
  obtain ⟨⟨⟨⟨z1, z2⟩, z3⟩, z4⟩, z5⟩ := z
  exact ⟨⟨fd, ini_ok F (C8.fnScope_by S) hb hm (meB_ok z5), bi⟩, oexB_ok z1, He.eqO_ok z2, of_decide_eq_true z3, fun f hf => He.eqO_ok (List.all_eq_true.mp z4 f hf)⟩
def isCls (x : Str) : He.Fa → Bool
  | .cls y => decide (y = x)
  | _ => false
def isNoat (x f : Str) : He.Fa → Bool
  | .noat y g => decide (y = x) && decide (g = f)
  | _ => false
theorem clk_of (c : He.SaysD fa fn K) {cl fl : List Str} (m : (cl.all fun x => fa.any (isCls x) && fl.all fun f => fa.any (isNoat x f)) = true) : ∀ x ∈ cl, ClK K fl x := fun x hx => by
  obtain ⟨m1, m2⟩ := Bool.and_eq_true_iff.mp (List.all_eq_true.mp m x hx)
  obtain ⟨f, hf, e⟩ := List.any_eq_true.mp m1
  have z := says_mem c hf
  refine ⟨?_, fun g hg => ?_⟩
  · cases f with
    | cls y =>
      cases of_decide_eq_true (show decide (y = x) = true from e)
      exact He.cls_ok z
    | _ => cases e
  · obtain ⟨f2, hf2, e2⟩ := List.any_eq_true.mp (List.all_eq_true.mp m2 g hg)
    have z2 := says_mem c hf2
    cases f2 with
    | noat y g2 =>
      obtain ⟨e3, e4⟩ := Bool.and_eq_true_iff.mp (show (decide (y = x) && decide (g2 = g)) = true from e2)
      cases of_decide_eq_true e3
      cases of_decide_eq_true e4
      exact He.noat_ok z2
    | _ => cases e2
theorem fat_meth {x m : Str} (hm : m ≠ "__init__") (c : (He.Fa.meth x m).ok K = true) : FAt K mg (x, some m) (He.ma K (He.ga K x) m) := by
  show (if m = ("__init__" : Str) then Mk K (He.ga K x) (He.ma K (He.ga K x) m) ∧ mg x = some (.ref (He.ga K x)) else Meth K (He.ga K x) m (He.ma K (He.ga K x) m))
  rw [if_neg hm]
  exact He.meth_ok c
theorem fat_mk {x : Str} (X : K.In h) (G : h.Ns mainGlobals mg) (c : (He.Fa.mkr x).ok K = true) (g : (He.Fa.glo x).ok K = true) : FAt K mg (x, some ("__init__" : Str)) (He.ma K (He.ga K x) "__init__") := by
  show (if ("__init__" : Str) = ("__init__" : Str) then Mk K (He.ga K x) (He.ma K (He.ga K x) "__init__") ∧ mg x = some (.ref (He.ga K x)) else Meth K (He.ga K x) "__init__" (He.ma K (He.ga K x) "__init__"))
  rw [if_pos rfl]
  exact ⟨He.mkr_ok c, He.glo_ok X G g⟩
end
/-! ### constants of the module: tuples of texts, dicts of these -/
def txtsB : List (List Nat) → List Value → Bool
  | [], [] => true
  | s :: ss, .str x _ :: vs => decide (x = mkS s) && txtsB ss vs
  | _, _ => false
theorem txtsB_ok : ∀ {ss : List (List Nat)} {vs : List Value}, txtsB ss vs = true → Vals (ss.map fun s => V.str (mkS s)) vs
  | [], [], _ => .nil
  | [], _ :: _, h => by unfold txtsB at h; cases h
  | s :: ss, vs, h => by
    unfold txtsB at h
    split at h
    · rename_i e; cases e
    · rename_i s' ss' x t vs' e1
      cases e1
      obtain ⟨h1, h2⟩ := Bool.and_eq_true_iff.mp h
      cases of_decide_eq_true h1
      exact .cons ⟨t, rfl⟩ (txtsB_ok h2)
    · cases h
def ktpB (K : PySem.W.Frag) (a : Addr) (ss : List (List Nat)) : Bool := !ss.isEmpty && (match K.lookup a with
  | some ⟨.type c, _, .seq its _, _⟩ => decide (c = "tuple") && (decide (its.size ≤ sizeLine) && txtsB ss its.toList)
  | _ => false)
theorem ktpB_ok {K : PySem.W.Frag} {a : Addr} {ss : List (List Nat)} (h : ktpB K a ss = true) : KTp K a ss := by
  unfold ktpB at h
  obtain ⟨h0, h⟩ := Bool.and_eq_true_iff.mp h
  refine ⟨(fun z => by rw [z] at h0; exact absurd h0 (by decide)), ?_⟩
  split at h
  · rename_i c dd its n sl q
    obtain ⟨h1, h2⟩ := Bool.and_eq_true_iff.mp h
    obtain ⟨h3, h4⟩ := Bool.and_eq_true_iff.mp h2
    exact ⟨_, its, n, q, congrArg Value.type (of_decide_eq_true h1), rfl, of_decide_eq_true h3, txtsB_ok h4⟩
  · cases h
/-- a dict's values -/
def kdxB (K : PySem.W.Frag) (a : Addr) (kvs : List (List Nat × List (List Nat))) : Bool := kvs.all fun q => match PySem.W.nsIn K a (mkS q.1) with
  | some (some (.ref T)) => ktpB K T q.2
  | _ => false
theorem lookup_mem {κ α : Type} [BEq κ] [LawfulBEq κ] {k : κ} {v : α} : ∀ {l : List (κ × α)}, l.lookup k = some v → (k, v) ∈ l
  | [], h => by cases h
  | (a, b) :: l, h => by
    rw [List.lookup_cons] at h
    cases q : (k == a) with
    | true =>
      rw [q] at h
      cases h
      cases beq_iff_eq.mp q
      exact List.mem_cons_self
    | false => rw [q] at h; exact List.mem_cons_of_mem _ (lookup_mem h)
theorem lookup_none {κ α : Type} [BEq κ] [LawfulBEq κ] {k : κ} : ∀ {l : List (κ × α)}, l.lookup k = none → ∀ v, (k, v) ∉ l
  | [], _, _, m => by cases m
  | (a, b) :: l, h, v, m => by
    rw [List.lookup_cons] at h
    cases q : (k == a) with
    | true => rw [q] at h; cases h
    | false =>
      rw [q] at h
      rcases List.mem_cons.mp m with e | m
      · cases e
        rw [beq_self_eq_true] at q
        cases q
      · exact lookup_none h v m
theorem keys_of {P : Params} : ∀ {l : List DictEntry} {ks : List Str}, l.map He.keyOf = He.keysIn P ks → ∀ e ∈ l, ∃ x t, e.key = .str x t ∧ x ∈ ks
  | [], _, _, e, m => by cases m
  | e0 :: r, [], h, _, _ => by cases h
  | e0 :: r, k :: ks, h, e, m => by
    have h1 : He.keyOf e0 :: r.map He.keyOf = some (k, PyData.keyHash P k) :: He.keysIn P ks := h
    injection h1 with h2 h3
    rcases List.mem_cons.mp m with rfl | m
    · unfold He.keyOf at h2
      split at h2
      · rename_i x t q
        obtain ⟨h5, _⟩ := Prod.mk.inj (Option.some.inj h2)
        exact ⟨x, t, q, by rw [h5]; exact List.mem_cons_self⟩
      · cases h2
    · obtain ⟨x, t, q, hx⟩ := keys_of h3 e m
      exact ⟨x, t, q, List.mem_cons_of_mem _ hx⟩
theorem dicW_es {K : PySem.W.Frag} {P : Params} {a : Addr} {ks : List Str} (h : He.dicW K a = some (He.keysIn P ks)) : ∃ es n, K.lookup a = some ⟨.type "dict", none, .dict es n, #[]⟩ ∧ es.toList.map He.keyOf = He.keysIn P ks := by
  unfold He.dicW at h
  split at h
  · rename_i c es n sl q
    cases z : decide (c = "dict") && (sl.isEmpty && !(a == sysModules)) with
    | false => rw [z] at h; cases h
    | true =>
      rw [z] at h
      obtain ⟨z1, z2⟩ := Bool.and_eq_true_iff.mp z
      obtain ⟨z3, z4⟩ := Bool.and_eq_true_iff.mp z2
      cases of_decide_eq_true z1
      have e2 : sl = #[] := Array.isEmpty_iff.mp z3
      subst e2
      exact ⟨es, n, q, Option.some.inj h⟩
  · cases h
theorem kdx_of {K : PySem.W.Frag} {w : World} {a : Addr} {kvs : List (List Nat × List (List Nat))} (h : He.dicW K a = some (He.keysIn w.params (kvs.map fun q => mkS q.1))) (b : kdxB K a kvs = true) : KDx K w a kvs := by
  refine ⟨He.dicW_ok h, fun s ss e => ?_, fun s e => ?_⟩
  · have m := lookup_mem e
    have z := List.all_eq_true.mp b _ m
    dsimp only at z
    split at z
    · rename_i T q
      exact ⟨T, q, ktpB_ok z⟩
    · cases z
  · obtain ⟨es, n, q, hk⟩ := dicW_es h
    have ks := keys_of hk
    unfold PySem.W.nsIn
    rw [q]
    have e1 : es.toList.find? (·.key.isStr (mkS s)) = none := by
      rw [List.find?_eq_none]
      intro x hx hs
      obtain ⟨y, t, ey, hy⟩ := ks x hx
      obtain ⟨p, hp, ep⟩ := List.mem_map.mp hy
      rw [ey] at hs
      have hs' : y = mkS s := by
        have : (y == mkS s) = true := hs
        exact beq_iff_eq.mp this
      rw [← ep] at hs'
      have := mkS_inj.mp hs'
      exact lookup_none e p.2 (by rw [← this]; exact hp)
    have e2 : es.toList.any (·.refKey) = false := by
      rw [List.any_eq_false]
      intro x hx
      obtain ⟨y, t, ey, hy⟩ := ks x hx
      unfold DictEntry.refKey
      rw [ey]
      simp
    simp only [e1, e2]
    rfl
/-! ### the Hook, with more facts -/
/-- constants: tuples by their names, dicts by theirs -/
structure Cons where
  t : List (Str × List (List Nat)) := []
  d : List (Str × List (List Nat × List (List Nat))) := []
def consB (cs : Cons) (K : PySem.W.Frag) : Bool := (cs.t.all fun p => ktpB K (He.ga K p.1) p.2) && cs.d.all fun p => kdxB K (He.ga K p.1) p.2
abbrev AlX : Type := He.AlD × List (Option (List (Option (Str × Int))))
def obsX (fa : List He.Fa) (fn : List He.DefD) (fx : PySem.W.Frag → Bool) (cs : Cons) (K : PySem.W.Frag) : AlX := (((He.obsD fa fn K).1 && (fx K && consB cs K), (He.obsD fa fn K).2), cs.d.map fun p => He.dicW K (He.ga K p.1))
def valX (fn : List He.DefD) (cs : Cons) (w : World) : AlX := (He.valD fn, cs.d.map fun p => some (He.keysIn w.params (p.2.map fun q => mkS q.1)))
def SaysX (fa : List He.Fa) (fn : List He.DefD) (fx : PySem.W.Frag → Bool) (cs : Cons) (w : World) (K : PySem.W.Frag) : Prop := obsX fa fn fx cs K = valX fn cs w
section
variable {fa : List He.Fa} {fn : List He.DefD} {fx : PySem.W.Frag → Bool} {cs : Cons} {w : World} {K : PySem.W.Frag} {h : Heap} {mg : Str → Option Value}
theorem SaysX.d (c : SaysX fa fn fx cs w K) : He.SaysD fa fn K := by
  have c1 : ((He.obsD fa fn K).1 && (fx K && consB cs K)) = true := congrArg (fun z : AlX => z.1.1) c
  have c2 : (He.obsD fa fn K).2 = fn.map He.DefD.val := congrArg (fun z : AlX => z.1.2) c
  have c3 := (Bool.and_eq_true_iff.mp c1).1
  unfold He.SaysD He.valD
  rw [← c2, ← c3]
theorem SaysX.x (c : SaysX fa fn fx cs w K) : fx K = true := by
  have c1 : ((He.obsD fa fn K).1 && (fx K && consB cs K)) = true := congrArg (fun z : AlX => z.1.1) c
  exact (Bool.and_eq_true_iff.mp (Bool.and_eq_true_iff.mp c1).2).1
theorem SaysX.c (c : SaysX fa fn fx cs w K) : consB cs K = true := by
  have c1 : ((He.obsD fa fn K).1 && (fx K && consB cs K)) = true := congrArg (fun z : AlX => z.1.1) c
  exact (Bool.and_eq_true_iff.mp (Bool.and_eq_true_iff.mp c1).2).2
theorem gts_of (X : K.In h) (G : h.Ns mainGlobals mg) (c : SaysX fa fn fx cs w K) {l : List (Str × List (List Nat))} (m : (l.all fun p => decide (p ∈ cs.t) && fa.any (isGlo p.1)) = true) : ∀ x ss, (x, ss) ∈ l → ∃ a, mg x = some (.ref a) ∧ KTp K a ss := fun x ss hx => by
  obtain ⟨m1, m2⟩ := Bool.and_eq_true_iff.mp (List.all_eq_true.mp m _ hx)
  have m1 := of_decide_eq_true m1
  obtain ⟨f2, hf2, e2⟩ := List.any_eq_true.mp m2
  have z2 := says_mem c.d hf2
  have z3 := List.all_eq_true.mp (Bool.and_eq_true_iff.mp c.c).1 _ m1
  cases f2 with
  | glo y =>
    cases of_decide_eq_true (show decide (y = x) = true from e2)
    exact ⟨_, He.glo_ok X G z2, ktpB_ok z3⟩
  | _ => cases e2
theorem gds_of (X : K.In h) (G : h.Ns mainGlobals mg) (c : SaysX fa fn fx cs w K) {l : List (Str × List (List Nat × List (List Nat)))} (m : (l.all fun p => decide (p ∈ cs.d) && fa.any (isGlo p.1)) = true) : ∀ x kvs, (x, kvs) ∈ l → ∃ a, mg x = some (.ref a) ∧ KDx K w a kvs := fun x ss hx => by
  obtain ⟨m1, m2⟩ := Bool.and_eq_true_iff.mp (List.all_eq_true.mp m _ hx)
  have m1 := of_decide_eq_true m1
  obtain ⟨f2, hf2, e2⟩ := List.any_eq_true.mp m2
  have z2 := says_mem c.d hf2
  have z3 := List.all_eq_true.mp (Bool.and_eq_true_iff.mp c.c).2 _ m1
  have e : cs.d.map (fun p => He.dicW K (He.ga K p.1)) = cs.d.map fun p => some (He.keysIn w.params (p.2.map fun q => mkS q.1)) := congrArg (fun z : AlX => z.2) c
  have z4 : He.dicW K (He.ga K x) = some (He.keysIn w.params (ss.map fun q => mkS q.1)) := List.map_inj_left.mp e _ m1
  cases f2 with
  | glo y =>
    cases of_decide_eq_true (show decide (y = x) = true from e2)
    exact ⟨_, He.glo_ok X G z2, kdx_of z4 z3⟩
  | _ => cases e2
end
def obsXG (n : Nat) (fa : List He.Fa) (fn : List He.DefD) (fx : PySem.W.Frag → Bool) (cs : Cons) (g : Addr → Option Obj) : AlX := obsX fa fn fx cs (He.frG g (He.asD g n ++ [PySem.cStatics]))
def hookX (n : Nat) (fa : List He.Fa) (fn : List He.DefD) (fx : PySem.W.Frag → Bool) (cs : Cons) : PySem.W.Hook where
  α := AlX
  obs := fun s => obsXG n fa fn fx cs s.heap.get?
  val := fun w => valX fn cs w
  says := fun w h => ∃ K : PySem.W.Frag, K.In h ∧ SaysX fa fn fx cs w K
  of := fun _ _ e => ⟨_, He.frG_in, e⟩
  keeps := fun _ _ _ ⟨K, hK, c⟩ k => ⟨K, PySem.W.Frag.In.keeps hK k, c⟩
theorem obsXG_eq {n : Nat} {fa : List He.Fa} {fn : List He.DefD} {fx : PySem.W.Frag → Bool} {cs : Cons} {g : Addr → Option Obj} {s : Shared} (h : ∀ a, g a = s.heap.get? a) : obsXG n fa fn fx cs g = (hookX n fa fn fx cs).obs s := by
  have e : g = s.heap.get? := funext h
  rw [e] <;> rfl
end Lit
/-! The drawn trees of the laws on trees. -/
namespace Lit
open PySem PySem.Spec PyProof.Rows L2
abbrev gW : List Nat := [119, 111, 114, 100]
abbrev gC : List Nat := [99, 111, 117, 110, 116]
abbrev gM : List Nat := [109, 111, 115, 116]
abbrev wcm (s : List Nat) (c m : Int) : List (D × D) := [(.str gW, .str s), (.str gC, .int c), (.str gM, .int m)]
theorem okR_wcm (s : List Nat) (c m : Int) : okR (wcm s c m) := ⟨by simp, fun kv h => by
  simp only [wcm, List.mem_cons, List.not_mem_nil, or_false] at h
  rcases h with rfl | rfl | rfl <;> exact ⟨_, rfl, by decide, by decide, by decide⟩⟩
section
variable {h : PH} {p : Addr} {l s t x y z v : D} {Q : D → PH → Prop} {R : PH → Prop}
abbrev wO (l s t x y z : D) : PO := stO l s t [(.str gW, x), (.str gC, y), (.str gM, z)]
theorem ixW (e : h p = some (wO l s t x y z)) : ixD (.ref p) (.str gW) h Q = Q x h := by simp [ixD, e, keyOk, getD?, eqK, eqF]
theorem ixC (e : h p = some (wO l s t x y z)) : ixD (.ref p) (.str gC) h Q = Q y h := by simp [ixD, e, keyOk, getD?, eqK, eqF]
theorem ixM (e : h p = some (wO l s t x y z)) : ixD (.ref p) (.str gM) h Q = Q z h := by simp [ixD, e, keyOk, getD?, eqK, eqF]
theorem setC (e : h p = some (wO l s t x y z)) : setD (.ref p) (.str gC) v h R = put p (wO l s t x v z) h R := by simp [setD, e, keyOk, likeKeys, setKV, eqK, eqF, sz]
end
section
variable {h : PH} {p : Addr} {l s t x y z v : D} {Q : D → PH → Prop} {R : PH → Prop}
theorem newW (e : h p = some (stO l s t [])) : setD (.ref p) (.str gW) v h R = put p (stO l s t [(.str gW, v)]) h R := by simp [setD, e, keyOk, likeKeys, setKV, eqK, eqF, sz]
theorem newC (e : h p = some (stO l s t [(.str gW, x)])) : setD (.ref p) (.str gC) v h R = put p (stO l s t [(.str gW, x), (.str gC, v)]) h R := by simp [setD, e, keyOk, likeKeys, setKV, eqK, eqF, sz]
theorem newM (e : h p = some (stO l s t [(.str gW, x), (.str gC, y)])) : setD (.ref p) (.str gM) v h R = put p (wO l s t x y v) h R := by simp [setD, e, keyOk, likeKeys, setKV, eqK, eqF, sz]
end
theorem StR.get {s : List Nat} {c m n : Int} {h : PH} {p : Addr} (st : StR (wcm s c m) n h p) : ∃ l e t : Int, h p = some (wO (.int l) (.int e) (.int t) (.str s) (.int c) (.int m)) ∧ 0 ≤ l ∧ 0 ≤ t ∧ t ≤ n := by
  obtain ⟨l, e, t, h1, h2, h3, h4, _⟩ := st
  exact ⟨l, e, t, h1, h2, h3, h4⟩
theorem StR.mk {s : List Nat} {c m n l e t : Int} {h : PH} {p : Addr} (x : h p = some (wO (.int l) (.int e) (.int t) (.str s) (.int c) (.int m))) (h2 : 0 ≤ l) (h3 : 0 ≤ t) (h4 : t ≤ n) : StR (wcm s c m) n h p :=
  ⟨l, e, t, x, h2, h3, h4, okR_wcm _ _ _⟩
def E_partB (iD iP : Nat) : S := .cons (.ife (.cmp .lt (.ix (.var 0) (.str gC)) (.ix (.var 0) (.str gM))) (.cons (.setI (.var 0) (.str gC) (.op true .add (.ix (.var 0) (.str gC)) (.int 1))) (.cons (.expr (.mth .append (.var 3) (.cons (.call iP (.cons (.var 0) (.cons (.op true .add (.var 1) (.int 1)) .nil))) .nil))) .nil)) .nil) .nil
def E_grow (iD iP : Nat) : S := .cons (.set (.nm 2) (.ix (.lst true (.cons (.ix (.var 0) (.str gW)) (.cons (.str [97]) (.cons (.str [97]) (.cons (.str [98]) (.cons (.str [97, 98]) .nil)))))) (.call iD (.cons (.var 0) (.cons (.int 5) .nil))))) (.cons (.set (.nm 3) (.lst false .nil)) (.cons (.for_ (.itR1 (.op true .mul (.call iD (.cons (.var 0) (.cons (.int 5) .nil))) (.b1 .int (.cmp .lt (.var 1) (.int 7))))) (.nm 4) (E_partB iD iP)) (.cons (.ret (.fgt (.tup (.cons (.var 2) (.cons (.b1 .tuple (.var 3)) .nil))))) .nil)))
/-- a part is drawn: so many parts stand behind it, at most m; it is at most d deep -/
def spGrow (d : Nat) : DSp := fun ds h _ Q => ∃ (p : Addr) (k : Nat) (s : List Nat) (c m n : Int), ds = [.ref p, .int k] ∧ k + d = 8 ∧ k ≤ 7 ∧ isN (.str s) = true ∧ 1 ≤ c ∧ c ≤ m ∧ m ≤ 60 ∧ n + 3 * (m - c + 1) < 2 ^ 39 ∧ StR (wcm s c m) n h p ∧
  ∀ (t : T) (h' : PH), wok t = true → dpt t ≤ d → c + size t ≤ m + 1 → StR (wcm s (c + size t - 1) m) (n + 3 * size t) h' p → ExtBut p h h' → Q (enc t) h'
theorem encs_snoc (ks : List T) (k : T) : encs (ks ++ [k]) = encs ks ++ [enc k] := by simp [encs_map]
theorem woks_snoc (ks : List T) (k : T) : woks (ks ++ [k]) = (woks ks && wok k) := by
  induction ks with
  | nil => simp [woks]
  | cons a r ih => simp only [List.cons_append, woks, ih, Bool.and_assoc]
theorem dpts_snoc (ks : List T) (k : T) : dpts (ks ++ [k]) = max (dpts ks) (dpt k) := by
  induction ks with
  | nil => simp [dpts]
  | cons a r ih => simp only [List.cons_append, dpts, ih]; omega
theorem sizes_snoc (ks : List T) (k : T) : sizes (ks ++ [k]) = sizes ks + size k := by
  induction ks with
  | nil => simp [sizes]
  | cons a r ih => simp only [List.cons_append, sizes, ih]; omega
theorem b_grow (sps : List DSp) (iD iP d : Nat) (eD : sps[iD]? = some spDigit) (eP : 0 < d → sps[iP]? = some (spGrow d)) (ds h xq Q) (q : spGrow (d + 1) ds h xq Q) : body sps (E_grow iD iP) 5 ds h xq Q := by
  obtain ⟨p, k, s, c, m, n, rfl, hk, hk0, hs, hc, hcm, hm, hn, st, hQ⟩ := q
  obtain ⟨l, e, t, st0, _⟩ := st.get
  simp [body, E_grow, startD, ixW st0]
  refine ⟨by decide, spAt_ok eD ⟨p, 5, n, _, rfl, by decide, by decide, by omega, st, fun r h1 hr hr' st1 x1 => ?_⟩⟩
  have pick : ∃ w, atI [D.str s, .str [97], .str [97], .str [98], .str [97, 98]] r = some (.str w) ∧ isN (.str w) = true := by
    obtain ⟨v, a1, a2⟩ := atI_in (l := [D.str s, .str [97], .str [97], .str [98], .str [97, 98]]) hr hr'
    simp only [List.mem_cons, List.not_mem_nil, or_false] at a2
    rcases a2 with rfl | rfl | rfl | rfl | rfl
    · exact ⟨s, a1, hs⟩
    · exact ⟨_, a1, by decide⟩
    · exact ⟨_, a1, by decide⟩
    · exact ⟨_, a1, by decide⟩
    · exact ⟨_, a1, by decide⟩
  obtain ⟨w, a1, hw⟩ := pick
  simp [ixD, a1]
  intro pF h2 n2 e2 x2
  have st2 := st1.ext x2
  have nep : p ≠ pF := ne_of n2 (st1.told.choose_spec)
  refine spAt_ok eD ⟨p, 5, n + 1, _, rfl, by decide, by decide, by omega, st2, fun r3 h3 hr3 hr3' st3 x3 => ?_⟩
  have e3 := x3 pF _ nep.symm e2
  simp [b1D]
  obtain ⟨b, hb0, hb1, hbk, eb⟩ : ∃ b : Int, 0 ≤ b ∧ b ≤ 1 ∧ (1 ≤ b → (k : Int) < 7) ∧ (if (k : Int) < 7 then (1 : Int) else 0) = b := by
    by_cases z : (k : Int) < 7
    · exact ⟨1, by decide, by decide, fun _ => z, if_pos z⟩
    · exact ⟨0, by decide, by decide, fun q => absurd q (by decide), if_neg z⟩
  rw [eb]
  have rb : 0 ≤ r3 * b ∧ r3 * b ≤ 4 ∧ (1 ≤ r3 * b → (k : Int) < 7) := by
    have b2 : b = 0 ∨ b = 1 := by omega
    rcases b2 with rfl | rfl
    · simp
    · simp at hbk ⊢
      exact ⟨hr3, by omega, fun _ => hbk⟩
  refine ⟨cmul_of (by omega) (by omega), by omega, by omega, ?_⟩
  have x13 : ExtBut p h h3 := (x1.trans x2.but).trans x3
  refine forLoop_inv (fun l ρ h' => (l ≠ [] → (k : Int) < 7) ∧ ∃ (ks : List T) (a4 : Option D), ρ = [some (.ref p), some (.int (k : Nat)), some (.str w), some (.ref pF), a4] ∧ h' pF = some (.lst (encs ks)) ∧ woks ks = true ∧ dpts ks ≤ d ∧ c + sizes ks ≤ m ∧
    StR (wcm s (c + sizes ks) m) (n + 2 + 3 * sizes ks) h' p ∧ ExtBut p h h') (fun _ _ _ _ => trivial) ?_ ?_ _ _ _ ⟨fun z => rb.2.2 ?_, [], none, rfl, e3, rfl, Nat.zero_le _, by simp [sizes]; exact hcm, by simpa [sizes] using st3.up (by omega), x13⟩
  · rintro v l ρ h4 ⟨hk7, ks, a4, rfl, f4, w4, d4, c4, st4, x4⟩
    have hk7 := hk7 (by simp)
    refine ⟨_, asg_nm, fun N hN => ?_⟩
    obtain ⟨l4, e4, t4, s4, q1, q2, q3⟩ := st4.get
    simp [E_partB, ixC s4, ixM s4]
    by_cases z : c + sizes ks < m
    · simp [z, setC s4]
      intro h5 e5 x5
      have f5 : h5 pF = some (.lst (encs ks)) := x5 pF _ nep.symm f4
      refine ⟨tyB_append f5, ?_⟩
      have st5 : StR (wcm s (c + sizes ks + 1) m) (n + 2 + 3 * sizes ks) h5 p := StR.mk e5 q1 q2 q3
      refine spAt_ok (eP (by omega)) ⟨p, k + 1, s, c + sizes ks + 1, m, n + 2 + 3 * sizes ks, by simp, by omega, by omega, hs, by omega, by omega, hm, by omega, st5, fun u h6 wu du cu st6 x6 => ?_⟩
      have f6 : h6 pF = some (.lst (encs ks)) := x6 pF _ nep.symm f5
      dsimp only
      rw [append_mth f6]
      have lk := len_sizes ks
      refine ⟨by rw [encs_len, sz]; omega, fun h7 e7 x7 => ?_⟩
      have sn := sizes_snoc ks u
      refine hN _ _ ⟨fun _ => hk7, ks ++ [u], _, rfl, by rw [encs_snoc]; exact e7, by rw [woks_snoc, w4, wu]; rfl, by rw [dpts_snoc]; omega, by rw [sn]; omega, ?_, ?_⟩
      · have st7 : StR (wcm s (c + sizes ks + 1 + size u - 1) m) (n + 2 + 3 * sizes ks + 3 * size u) h7 p := by
          obtain ⟨l6, e6, t6, s6, g1, g2, g3⟩ := st6.get
          exact StR.mk (x7 p _ nep s6) g1 g2 g3
        have e8 : c + sizes ks + 1 + size u - 1 = c + ((sizes (ks ++ [u]) : Nat) : Int) := by rw [sn]; omega
        rw [e8] at st7
        exact st7.up (by rw [sn]; omega)
      · have n0 : h pF = none := by
          cases e0 : h pF with
          | none => rfl
          | some o => rw [x1 pF o nep.symm e0] at n2; cases n2
        refine fun q u' nq hq => ?_
        have nqF : q ≠ pF := fun z => by rw [z, n0] at hq; cases hq
        exact x7 q u' nqF (x6 q u' nq (x5 q u' nq (x4 q u' nq hq)))
    · simp [z]
      exact hN _ _ ⟨fun _ => hk7, ks, _, rfl, f4, w4, d4, c4, st4, x4⟩
  · rintro ρ h4 ⟨_, ks, a4, rfl, f4, w4, d4, c4, st4, x4⟩
    have tq : ∀ Q' : D → PH → Prop, b1D .tuple (.ref pF) h4 Q' = Q' (.tup (encs ks)) h4 := fun Q' => by simp only [b1D, rdQ, rdL_ref f4]
    simp [tq]
    refine ⟨by decide, h4, .refl, ?_⟩
    have := hQ (.node w ks) h4 (by simp only [wok, hw, w4, Bool.and_self]) (by simp only [dpt]; omega) (by simp only [size]; omega) (by
      have e8 : c + ((size (.node w ks) : Nat) : Int) - 1 = c + ((sizes ks : Nat) : Int) := by simp only [size]; omega
      rw [e8]
      exact st4.up (by simp only [size]; omega)) x4
    simpa [enc] using this
  · simp [natsD] at z
    omega
/-! ### the whole tree -/
def E_signs (iD : Nat) : E := .comp true (.itR1 (.op true .add (.int 1) (.call iD (.cons (.var 0) (.cons (.int 8) .nil))))) (.nm 3) [3] .nil (.ix (.str lets) (.call iD (.cons (.var 0) (.cons (.int 26) .nil))))
def E_wtree (iD iP : Nat) : S := .cons (.setC 2 (E_signs iD)) (.cons (.setT (.cons (.var 0) (.cons (.str gW) (.cons (.var 0) (.cons (.str gC) (.cons (.var 0) (.cons (.str gM) .nil)))))) (.tup (.cons (.mth .join (.str []) (.cons (.var 2) .nil)) (.cons (.int 1) (.cons (.var 1) .nil))))) (.cons (.ret (.call iP (.cons (.var 0) (.cons (.int 0) .nil)))) .nil))
/-- a drawn tree of at most m parts -/
def spWtree : DSp := fun ds h _ Q => ∃ (p : Addr) (m n : Int), ds = [.ref p, .int m] ∧ 1 ≤ m ∧ m ≤ 60 ∧ n < 2 ^ 38 ∧ St n h p ∧ ∀ (t : T) (w : List (D × D)) (h' : PH), GT t → size t ≤ m → StR w (n + 1000) h' p → ExtBut p h h' → Q (enc t) h'
theorem join_mthR {s : List Nat} {ys : List (List Nat)} {h : PH} {Q : D → PH → Prop} : mthD .join (.str s) [.rol (ys.map D.str)] h Q = ((ys.map (·.length)).sum + ys.length * s.length ≤ 16777216 ∧ Q (.str (TL.joinL s ys)) h) := by
  simp only [mthD, rdQ_rol, strs_str]
  have e2 : (Txt.join (mkS s) (ys.map mkS)).cps.toList = TL.joinL s ys := by rw [show Txt.join (mkS s) (ys.map mkS) = mkS (TL.joinL s ys) from SX.join_S s ys]
  rw [e2]
theorem sum_ones (s : List Nat) : ((s.map fun c => [c]).map (·.length)).sum = s.length := by
  induction s with
  | nil => rfl
  | cons c r ih => simp only [List.map_cons, List.sum_cons, ih, List.length_cons, List.length_nil]; omega
theorem joinL_sig : ∀ s : List Nat, TL.joinL [] (s.map fun c => [c]) = s := fun s => by
  rw [joinL_nil]
  induction s with
  | nil => rfl
  | cons c r ih => simp [ih]
/-- .. its word is told -/
def spWtree2 : DSp := fun ds h _ Q => ∃ (p : Addr) (m n : Int), ds = [.ref p, .int m] ∧ 1 ≤ m ∧ m ≤ 60 ∧ n < 2 ^ 38 ∧ St n h p ∧ ∀ (t : T) (s : List Nat) (c : Int) (h' : PH), isN (.str s) = true → GT t → size t ≤ m → StR (wcm s c m) (n + 1000) h' p → ExtBut p h h' → Q (enc t) h'
theorem b_wtree2 (sps : List DSp) (iD iP : Nat) (eD : sps[iD]? = some spDigit) (eP : sps[iP]? = some (spGrow 8)) (ds h xq Q) (q : spWtree2 ds h xq Q) : body sps (E_wtree iD iP) 4 ds h xq Q := by
  obtain ⟨p, m, n, rfl, h1m, hm, hn, st, hQ⟩ := q
  simp [body, E_wtree, E_signs, startD]
  refine spAt_ok eD ⟨p, 8, n, _, rfl, by decide, by decide, by omega, st, fun r h1 hr hr' st1 x1 => ?_⟩
  simp
  refine ⟨by omega, by omega, ?_⟩
  refine compLoop_inv (fun l acc h' => ∃ s : List Nat, acc = s.map (fun c => D.str [c]) ∧ (∀ c ∈ s, c ∈ lets) ∧ s.length + l.length = (1 + r).toNat ∧ St (n + 1 + s.length) h' p ∧ ExtBut p h h') (fun _ _ _ _ => trivial) ?_ ?_ _ _ _ ⟨[], rfl, by simp, by simp [natsD], by simpa using st1, x1⟩
  · rintro d l acc h2 ⟨s, rfl, hl, hlen, st2, x2⟩
    refine ⟨_, asg_nm, fun N hN => ?_⟩
    simp [wipeR]
    simp only [List.length_cons] at hlen
    refine spAt_ok eD ⟨p, 26, n + 1 + s.length, _, rfl, by decide, by decide, by omega, st2, fun r2 h3 hr2 hr2' st3 x3 => ?_⟩
    obtain ⟨c, a1, a2⟩ := atI_in (l := lets) hr2 (by simpa [lets] using hr2')
    simp [ixD, a1]
    refine ⟨by decide, by rw [sz]; omega, hN _ _ ⟨s ++ [c], by simp, ?_, by simp; omega, ?_, x2.trans x3⟩⟩
    · intro c' hc'
      rcases List.mem_append.mp hc' with z | z
      · exact hl c' z
      · simp at z; subst z; exact a2
    · simpa [Int.add_assoc] using st3
  · rintro acc h2 ⟨s, rfl, hl, hlen, st2, x2⟩
    simp only [List.length_nil, Nat.add_zero] at hlen
    have hs : isN (.str s) = true := by
      simp only [isN, Bool.and_eq_true_iff, decide_eq_true_eq, List.all_eq_true]
      exact ⟨⟨by omega, by omega⟩, fun c hc => hl c hc⟩
    have mm : (s.map fun c => D.str [c]) = (s.map fun c => [c]).map D.str := by rw [List.map_map]; rfl
    have jq : ∀ Q' : D → PH → Prop, mthD .join (.str []) [.rol (s.map fun c => D.str [c])] h2 Q' = Q' (.str s) h2 := fun Q' => by
      rw [mm, join_mthR, joinL_sig, sum_ones]
      simp
      omega
    simp [tyB, isStr, jq]
    refine ⟨by decide, rfl, ?_⟩
    obtain ⟨l, e, t, s2, q1, q2, q3, _⟩ := st2
    rw [newW s2]
    intro h3 s3 x3
    rw [newC s3]
    intro h4 s4 x4
    rw [newM s4]
    intro h5 s5 x5
    have st5 : StR (wcm s 1 m) (n + 1 + s.length) h5 p := StR.mk s5 q1 q2 q3
    refine spAt_ok eP ⟨p, 0, s, 1, m, n + 1 + s.length, rfl, rfl, by decide, hs, by decide, h1m, hm, by omega, st5, fun u h6 wu du cu st6 x6 => ?_⟩
    exact hQ u _ _ h6 hs ⟨wu, du, by omega⟩ (by omega) (st6.up (by omega)) (((x2.trans x3).trans (x4.trans x5)).trans x6)
theorem b_wtree (sps : List DSp) (iD iP : Nat) (eD : sps[iD]? = some spDigit) (eP : sps[iP]? = some (spGrow 8)) (ds h xq Q) (q : spWtree ds h xq Q) : body sps (E_wtree iD iP) 4 ds h xq Q := by
  obtain ⟨p, m, n, e, h1, h2, h3, st, hQ⟩ := q
  exact b_wtree2 sps iD iP eD eP ds h xq Q ⟨p, m, n, e, h1, h2, h3, st, fun t s c h' _ g l s2 x => hQ t _ h' g l s2 x⟩
end Lit
/-! Places: tuples of whole numbers; their texts. -/
namespace Lit
open PySem PySem.Spec PyProof.Rows L2
abbrev itup (is : List Int) : D := .tup (is.map D.int)
theorem flat_ints : ∀ is : List Int, (is.map D.int).all flatD = true
  | [] => rfl
  | _ :: is => by rw [List.map_cons, List.all_cons, flat_ints is] <;> rfl
theorem deref_tupF {h : PH} {ds : List D} (f : ds.all flatD = true) : deref 70 h (.tup ds) = some (.tup ds) := by
  show (ds.mapM (deref 69 h)).map D.tup = _
  rw [mapM_flat f]
  rfl
theorem toPDs_ints : ∀ is : List Int, toPDs (is.map D.int) = is.map PyData.int
  | [] => by simp only [List.map_nil, toPDs]
  | i :: is => by simp only [List.map_cons, toPDs, toPD, toPDs_ints is]
theorem lay_ints : ∀ is : List Int, PyData.canLayAll0 (is.map PyData.int) = true
  | [] => by simp only [List.map_nil, PyData.canLayAll0]
  | i :: is => by simp only [List.map_cons, PyData.canLayAll0, PyData.canLay0, lay_ints is, Bool.and_self]
theorem sane_itup (is : List Int) : sane (itup is) = true := by
  unfold sane SeqAt.shaped
  simp only [toPD, toPDs_ints, PyData.canLay0, PyData.depth, lay_ints is, depth_ints]
  rfl
theorem eqvAll_ints : ∀ as bs : List Int, PyData.eqvAll (as.map PyData.int) (bs.map PyData.int) = decide (as = bs)
  | [], [] => by simp [PyData.eqvAll]
  | [], _ :: _ => by simp [PyData.eqvAll]
  | _ :: _, [] => by simp [PyData.eqvAll]
  | a :: as, b :: bs => by
    simp only [List.map_cons, PyData.eqvAll, PyData.eqv, eqvAll_ints as bs, List.cons.injEq]
    by_cases e : a = b <;> simp [e]
/-- a place or None -/
def pD : Option (List Int) → D
  | none => .non
  | some is => itup is
theorem deref_pD {h : PH} : ∀ o, deref 70 h (pD o) = some (pD o)
  | none => rfl
  | some is => deref_tupF (flat_ints is)
theorem sane_pD : ∀ o, sane (pD o) = true
  | none => rfl
  | some is => sane_itup is
theorem eqv_pD : ∀ a b, eqv (pD a) (pD b) = decide (a = b)
  | none, none => by simp [eqv, pD, toPD, PyData.eqv]
  | none, some _ => by simp [eqv, pD, toPD, PyData.eqv]
  | some _, none => by simp [eqv, pD, toPD, PyData.eqv]
  | some a, some b => by
    unfold eqv
    simp only [pD, toPD, toPDs_ints, PyData.eqv, eqvAll_ints, Option.some.injEq]
section
variable {h : PH} {R : Bool → Prop} {a b : Option (List Int)}
theorem eq_pD : cmpD .eq (pD a) (pD b) h R = R (decide (a = b)) := by
  have e : cmpD .eq (pD a) (pD b) h R = deepEq h (pD a) (pD b) R := by cases a <;> cases b <;> rfl
  rw [e, deepEq_eq (deref_pD a) (deref_pD b) (sane_pD a) (sane_pD b), eqv_pD]
theorem ne_pD : cmpD .ne (pD a) (pD b) h R = R (!decide (a = b)) := by
  have e : cmpD .ne (pD a) (pD b) h R = deepEq h (pD a) (pD b) fun b => R (!b) := by cases a <;> cases b <;> rfl
  rw [e, deepEq_eq (deref_pD a) (deref_pD b) (sane_pD a) (sane_pD b), eqv_pD]
theorem eq_itup {x y : List Int} : cmpD .eq (itup x) (itup y) h R = R (decide (x = y)) := by
  rw [show cmpD .eq (itup x) (itup y) h R = cmpD .eq (pD (some x)) (pD (some y)) h R from rfl, eq_pD]
  simp only [Option.some.injEq]
end
theorem cut_take {α : Type} (l : List α) (n : Nat) : cutL l none (some (n : Int)) = l.take n := by
  unfold cutL
  rw [HT.sIx_nat, HT.sIx_none, List.drop_zero, Nat.sub_zero]
  by_cases h : n ≤ l.length
  · rw [Nat.min_eq_left h]
  · rw [Nat.min_eq_right (by omega), List.take_of_length_le (Nat.le_refl _), List.take_of_length_le (by omega)]
theorem sl_tup {fz : Bool} {ds : List D} {lo hi : Option Int} {h : PH} {Q : D → PH → Prop} : slD fz (.tup ds) lo hi h Q = Q (.tup (cutL ds lo hi)) h := rfl
theorem len_tup {ds : List D} {h : PH} {Q : D → PH → Prop} : b1D .len (.tup ds) h Q = Q (.int ds.length) h := rfl
/-! ### is_within -/
def E_within : S := .cons (.ret (.cmp .eq (.sl true (.var 1) .nil (.b1 .len (.var 0))) (.var 0))) .nil
def spWithin : DSp := fun ds h _ Q => ∃ as bs : List Int, ds = [itup as, itup bs] ∧ Q (.bl (decide (bs.take as.length = as))) h
theorem b_within (sps : List DSp) (ds h xq Q) (q : spWithin ds h xq Q) : body sps E_within 2 ds h xq Q := by
  obtain ⟨as, bs, rfl, hQ⟩ := q
  simp [body, E_within, startD]
  rw [len_tup]
  simp only [List.length_map]
  rw [sl_tup, cut_take, ← List.map_take]
  rw [show cmpD .eq (.tup ((bs.take as.length).map D.int)) (.tup (as.map D.int)) h (fun k => Q (.bl k) h) = _ from eq_itup (x := bs.take as.length) (y := as)]
  exact hQ
/-! ### place_text -/
def ptext (is : List Int) : List Nat := if is = [] then [46] else TL.joinL [46] (is.map showN)
def strAll (i : Nat) : E := .comp true (.itL (.var 0)) (.nm i) [i] .nil (.b1 .str (.var i))
theorem str_all (sps : List DSp) {ρ : Rho} {h : PH} {xq : XQ} {Q : D → PH → Prop} {j : Nat} {is : List Int} {i : Nat} (hi : i < ρ.length) (h0 : ρ[j]? = some (some (itup is))) (hl : is.length ≤ sizeLine) (hb : ∀ x ∈ is, x.natAbs.log2 < 1920)
    (q : Q (.rol ((is.map showN).map D.str)) h) : rdE sps (.comp true (.itL (.var j)) (.nm i) [i] .nil (.b1 .str (.var i))) ρ h xq Q := by
  simp only [rdE_comp, rdI_itL, rdE_var, h0]
  refine compLoop_map (fun d => match d with
    | .int x => some (.str (showN x))
    | _ => none) (fun h' => h' = h) (fun _ _ => trivial) _ _ _ ?_ (by simpa using hl) rfl ?_
  · intro d hd h' eh
    subst eh
    obtain ⟨x, hx, rfl⟩ := List.mem_map.mp hd
    refine ⟨_, asg_nm, fun P hP => ?_⟩
    have e : (List.set (wipeR ρ [i]) i (some (D.int x)))[i]? = some (some (.int x)) := by simp [wipeR, hi]
    simp only [rdC_nil, rdE_b1, rdE_var, e]
    exact ⟨hb x hx, hP _ rfl⟩
  · intro h' eh
    subst eh
    have fm : (is.map D.int).filterMap (fun d => match d with
      | .int x => some (D.str (showN x))
      | _ => none) = (is.map showN).map D.str := by
      clear q h0 hb hl
      induction is with
      | nil => rfl
      | cons a is ih => rw [List.map_cons, List.filterMap_cons]; exact congrArg _ ih
    rw [fm, List.nil_append]
    exact q
def E_ptext : S := .cons (.ife (.cmp .eq (.var 0) (.tup .nil)) (.cons (.ret (.str [46])) .nil) .nil) (.cons (.ret (.mth .join (.str [46]) (.cons (strAll 1) .nil))) .nil)
def smallI (is : List Int) : Prop := is.length ≤ 1000 ∧ ∀ x ∈ is, 0 ≤ x ∧ x < 1000
def spPtext : DSp := fun ds h _ Q => ∃ is : List Int, ds = [itup is] ∧ smallI is ∧ Q (.str (ptext is)) h
theorem show_ok : ∀ n < 1000, ((∀ c ∈ showN (n : Nat), 48 ≤ c ∧ c ≤ 57) ∧ 1 ≤ (showN (n : Nat)).length ∧ (showN (n : Nat)).length ≤ 3) ∧ ((n : Nat) : Int).natAbs.log2 < 1920 := by decide +kernel
theorem show_sm {r : Int} (h0 : 0 ≤ r) (h1 : r < 1000) : (∀ c ∈ showN r, 48 ≤ c ∧ c ≤ 57) ∧ 1 ≤ (showN r).length ∧ (showN r).length ≤ 3 ∧ r.natAbs.log2 < 1920 := by
  obtain ⟨n, rfl⟩ := Int.eq_ofNat_of_zero_le h0
  have := show_ok n (by omega)
  exact ⟨this.1.1, this.1.2.1, this.1.2.2, this.2⟩
theorem sum_show {is : List Int} (h : ∀ x ∈ is, 0 ≤ x ∧ x < 1000) : ((is.map showN).map (·.length)).sum ≤ 3 * is.length := by
  induction is with
  | nil => simp
  | cons a is ih =>
    have := (show_sm (h a (by simp)).1 (h a (by simp)).2).2.2.1
    have := ih fun x hx => h x (by simp [hx])
    simp only [List.map_cons, List.sum_cons, List.length_cons]
    omega
theorem b_ptext (sps : List DSp) (ds h xq Q) (q : spPtext ds h xq Q) : body sps E_ptext 2 ds h xq Q := by
  obtain ⟨is, rfl, ⟨hl, hb⟩, hQ⟩ := q
  simp [body, E_ptext, startD]
  rw [show cmpD .eq (.tup (is.map D.int)) (.tup []) h = cmpD .eq (itup is) (itup []) h from rfl, eq_itup]
  by_cases e : is = []
  · simp only [e, decide_true]
    simpa [ptext, e] using hQ
  · simp only [e, decide_false]
    refine ⟨rfl, str_all sps (ρ := [some (itup is), none]) (by simp) rfl (by rw [sz]; omega) (fun x hx => (show_sm (hb x hx).1 (hb x hx).2).2.2.2) ?_⟩
    rw [join_mthR]
    refine ⟨?_, ?_⟩
    · have := sum_show hb
      simp only [List.length_map, List.length_cons, List.length_nil] at this ⊢
      omega
    · simpa [ptext, e] using hQ
end Lit
/-! read_place. -/
namespace Lit
open PySem PySem.Spec PyProof.Rows L2
def good (p : List Nat) : Bool := okNum p && decide (numV p ≤ 59)
def rp (s : List Nat) : Option (List Int) := if s = [46] then some [] else if (decide ((splS [46] s).length < 8) && (splS [46] s).all good) = true then some ((splS [46] s).map fun p => (numV p : Int)) else none
def rpD : D → Option (List Int)
  | .str s => rp s
  | _ => none
theorem spl_sub {b : List Nat} : ∀ {l acc : List Nat} {k : Nat}, ∀ p ∈ TL.spl b k acc l, p.length ≤ acc.length + l.length
  | [], acc, k, p, hp => by rw [TL.spl_nil] at hp; simp at hp; subst hp; simp
  | c :: r, acc, 0, p, hp => by
    cases e : TL.pre b (c :: r) with
    | true =>
      rw [TL.spl_hit e] at hp
      rcases List.mem_cons.mp hp with rfl | hp
      · omega
      · have := spl_sub (b := b) (l := r) (acc := []) p hp
        simp only [List.length_cons, List.length_nil] at this ⊢
        omega
    | false =>
      rw [TL.spl_miss e] at hp
      have := spl_sub (b := b) (l := r) (acc := acc ++ [c]) p hp
      simp only [List.length_cons, List.length_append, List.length_nil] at this ⊢
      omega
  | c :: r, acc, k + 1, p, hp => by
    have := spl_sub (b := b) (l := r) (acc := acc) (k := k) p hp
    simp only [List.length_cons]
    omega
theorem spl_many {b : List Nat} : ∀ {l acc : List Nat} {k : Nat}, (TL.spl b k acc l).length ≤ l.length + 1
  | [], acc, k => by rw [TL.spl_nil]; simp
  | c :: r, acc, 0 => by
    cases e : TL.pre b (c :: r) with
    | true =>
      rw [TL.spl_hit e]
      have := spl_many (b := b) (l := r) (acc := []) (k := b.length - 1)
      simp only [List.length_cons]
      omega
    | false =>
      rw [TL.spl_miss e]
      have := spl_many (b := b) (l := r) (acc := acc ++ [c]) (k := 0)
      simp only [List.length_cons]
      omega
  | c :: r, acc, k + 1 => by
    have := spl_many (b := b) (l := r) (acc := acc) (k := k)
    simp only [List.length_cons]
    exact Nat.le_succ_of_le this
def badD : D → Bool
  | .int n => decide (59 < n)
  | _ => true
theorem bad_num (p : List Nat) : badD (numD (.str p)) = !good p := by
  simp only [numD, good]
  cases okNum p with
  | false => rfl
  | true =>
    simp only [if_true, badD, Bool.true_and]
    by_cases z : numV p ≤ 59
    · have : ¬ (59 : Int) < (numV p : Nat) := by omega
      simp [z, this]
    · have : (59 : Int) < (numV p : Nat) := by omega
      simp [z, this]
def strF (g : List Nat → D) : D → Option D
  | .str p => some (g p)
  | _ => none
theorem fm_strF (g : List Nat → D) : ∀ ps : List (List Nat), (ps.map D.str).filterMap (strF g) = ps.map g
  | [] => rfl
  | p :: ps => by rw [List.map_cons, List.filterMap_cons, List.map_cons, fm_strF g ps] <;> rfl
def E_read (ci : Nat) : S := .cons (.ife (.lnot (.isi (.var 0) .str)) (.cons (.ret .non) .nil) .nil) (.cons (.ife (.cmp .eq (.var 0) (.str [46])) (.cons (.ret (.tup .nil)) .nil) .nil) (.cons (.setC 1 (.comp true (.itL (.mth (.split true) (.var 0) (.cons (.str [46]) .nil))) (.nm 2) [2] .nil (.call ci (.cons (.var 2) .nil))))
  (.cons (.ife (.lor (.cons (.cmp .ge (.b1 .len (.var 1)) (.gint "MOST_DEEP" 8)) (.cons (.b1 .any (.comp true (.itL (.var 1)) (.nm 3) [3] .nil (.lor (.cons (.cmp .is (.var 3) .non) (.cons (.cmp .gt (.var 3) (.gint "MOST_AT" 59)) .nil))))) .nil))) (.cons (.ret .non) .nil) .nil) (.cons (.ret (.b1 .tuple (.var 1))) .nil))))
def spRead : DSp := fun ds h _ Q => ∃ d, ds = [d] ∧ isData d h = true ∧ shortD2 d ∧ Q (pD (rpD d)) h
theorem len_lst {p : Addr} {ds : List D} {h : PH} {Q : D → PH → Prop} (e : h p = some (.lst ds)) : b1D .len (.ref p) h Q = Q (.int ds.length) h := by simp only [b1D, rdQ, rdL, e]
theorem b_read (sps : List DSp) (ci : Nat) (ec : sps[ci]? = some spNumber) (ds h xq Q) (q : spRead ds h xq Q) : body sps (E_read ci) 4 ds h xq Q := by
  obtain ⟨d, rfl, hd, hs, hQ⟩ := q
  cases d with
  | str s =>
    have hs : s.length + 2 ≤ sizeLine := hs
    simp [body, E_read, startD, isiD, isData]
    by_cases e0 : s = [46]
    · simp only [e0, decide_true]
      have := hQ
      simp only [rpD, rp, e0, if_true, pD] at this
      exact this
    simp only [e0, decide_false]
    refine ⟨rfl, ?_⟩
    rw [split_mth (s := s) (b := [46]) (by simp) (by decide)]
    refine ⟨by simp, hs, ?_⟩
    simp only [newL_t, rdL_rol]
    have sl : (splS [46] s).length ≤ s.length + 1 := spl_many (b := [46]) (l := s) (acc := []) (k := 0)
    refine compLoop_pure D.str (fun p => some (numD (.str p))) trivial (splS [46] s) [] (fun p hp => ⟨_, asg_nm, fun N hN => ?_⟩) (by simp; omega) ?_
    · have pl : p.length ≤ s.length := by
        have := spl_sub (b := [46]) (l := s) (acc := []) (k := 0) p hp
        simpa using this
      simp [wipeR]
      exact spAt_ok ec ⟨_, rfl, rfl, by show p.length ≤ sizeLine; omega, hN⟩
    · rw [fm_some, List.nil_append]
      have len : ∀ Q' : D → PH → Prop, b1D .len (.rol ((splS [46] s).map fun p => numD (.str p))) h Q' = Q' (.int ((splS [46] s).length : Nat)) h := fun Q' => by simp [b1D]
      simp [len]
      by_cases l8 : (splS [46] s).length < 8
      · have l8' : ¬ (8 : Int) ≤ ((splS [46] s).length : Int) := by omega
        simp only [l8', decide_false]
        refine compLoop_pure (fun p => numD (.str p)) (fun p => some (.bl (!good p))) trivial (splS [46] s) [] (fun p hp => ⟨_, asg_nm, fun N hN => ?_⟩) (by simp; omega) ?_
        · simp [wipeR]
          rw [← bad_num] at hN
          cases en : numD (.str p) with
          | int n =>
            rw [en] at hN
            simpa [noneD, badD] using hN
          | non =>
            rw [en] at hN
            simpa [noneD, badD] using hN
          | _ => simp only [numD] at en; split at en <;> cases en
        · rw [fm_some, List.nil_append]
          have mm : ((splS [46] s).map fun p => D.bl (!good p)) = ((splS [46] s).map fun p => !good p).map D.bl := by rw [List.map_map]; rfl
          have an : ∀ Q' : D → PH → Prop, b1D .any (.rol ((splS [46] s).map fun p => D.bl (!good p))) h Q' = Q' (.bl (((splS [46] s).map fun p => !good p).any id)) h := fun Q' => by rw [mm]; simp only [b1D, rdL_rol, bls_bl]
          simp only [newL_t, an]
          have av : (((splS [46] s).map fun p => !good p).any id) = !((splS [46] s).all good) := by
            rw [List.any_map, List.all_eq_not_any_not, Bool.not_not]
            rfl
          rw [av]
          simp only [tru_bl]
          cases ea : (splS [46] s).all good with
          | false => simpa [rpD, rp, e0, ea, pD] using hQ
          | true =>
            have e3' : ((splS [46] s).map fun p => numD (.str p)) = ((splS [46] s).map fun p => (numV p : Int)).map D.int := by
              rw [List.map_map]
              refine List.map_congr_left fun p hp => ?_
              have g := List.all_eq_true.mp ea p hp
              simp only [good, Bool.and_eq_true_iff] at g
              simp only [Function.comp, numD, g.1, if_true]
            simp [b1D, e3']
            have hq := hQ
            simp [rpD, rp, e0, ea, l8, pD] at hq
            simp only [itup, List.map_map] at hq
            exact hq
      · have l8' : (8 : Int) ≤ ((splS [46] s).length : Int) := by omega
        simp only [l8', decide_true]
        simpa [rpD, rp, e0, l8, pD] using hQ
  | ref a =>
    have hq := hQ
    simp [body, E_read, startD, hd]
    exact isi_ref hd rfl (fun _ => by simpa [rpD, pD] using hq) (fun _ _ z => nomatch z) (fun z => nomatch z)
  | _ => simpa [body, E_read, startD, isiD, isData, rpD, pD] using hQ
end Lit
/-! The Reader of trees' texts: what it does, sign by sign, and that the program's methods do it. -/
namespace Lit
open PySem PySem.Spec PyProof.Rows L2
/-- the reader's state: the stacks' tops stand first -/
structure Rd where
  sp : Nat
  ws : List (List Nat)
  inn : List (List T)
  br : Bool
def Rd.zero : Rd := ⟨0, [], [[]], false⟩
/-- how many letters stand ahead, at most n -/
def lead : Nat → List Nat → Nat
  | n + 1, c :: s => if c ∈ lets then lead n s + 1 else 0
  | _, _ => 0
/-- refused: the first sign that can't stand -/
inductive Re where | ok (st : Rd) | bad (at_ : Nat)
def Rd.begin (t : List Nat) (st : Rd) : Re :=
  if lead 8 (t.drop st.sp) = 0 then .bad (st.sp + 1) else .ok ⟨st.sp + lead 8 (t.drop st.sp), (t.drop st.sp).take (lead 8 (t.drop st.sp)) :: st.ws, [] :: st.inn, true⟩
def Rd.shut (st : Rd) : Rd := match st.ws, st.inn with
  | w :: ws, ks :: js :: inn => { st with ws := ws, inn := (js ++ [.node w ks]) :: inn }
  | _, _ => st
/-- the sign may stand here -/
def Rd.may (c : Nat) (st : Rd) : Bool := (decide (c = 40) && st.br) || ((decide (c = 44) || decide (c = 41)) && decide (1 < st.ws.length))
def Rd.next (c : Nat) (st : Rd) : Rd := if c = 40 then { st with sp := st.sp + 1 } else ({ st with sp := st.sp + 1 } : Rd).shut
def Rd.on (t : List Nat) (c : Nat) (st : Rd) : Re :=
  if st.may c = true then (if c = 41 then .ok { st.next c with br := false } else (st.next c).begin t) else .bad (st.sp + 1)
def Rd.run (t : List Nat) : Nat → Rd → Re
  | 0, st => .ok st
  | n + 1, st => match t.drop st.sp with
    | [] => .ok st
    | c :: _ => match st.on t c with
      | .ok s2 => s2.run t n
      | .bad e => .bad e
inductive Rt where | ok (t : T) | bad (at_ : Nat)
def Rd.all (t : List Nat) : Rt := match Rd.zero.begin t with
  | .bad e => .bad e
  | .ok s1 => match s1.run t t.length with
    | .bad e => .bad e
    | .ok s2 => match s2.ws, s2.inn with
      | [w], ks :: _ => .ok (.node w ks)
      | _, _ => .bad (s2.sp + 1)
/-- the state's shape: as many words as begun parts -/
structure Rd.Ok (t : List Nat) (st : Rd) : Prop where
  l : st.inn.length = st.ws.length + 1
  s : st.sp ≤ t.length
  n : ∀ w ∈ st.ws, isN (.str w) = true
  k : ∀ ks ∈ st.inn, woks ks = true
  m : (st.inn.map List.length).sum + st.ws.length ≤ st.sp
  b : st.inn.getLast? = some []
theorem lead_le : ∀ (n : Nat) (s : List Nat), lead n s ≤ n ∧ lead n s ≤ s.length
  | 0, s => by simp [lead]
  | n + 1, [] => by simp [lead]
  | n + 1, c :: s => by
    have := lead_le n s
    simp only [lead]
    split <;> simp <;> omega
/-! ### the state, told -/
abbrev rO (t : List Nat) (sp : Int) (w v : Addr) (b : Bool) : PO := .ins "Reader" [("text", .str t), ("spot", .int sp), ("words", .ref w), ("inner", .ref v), ("is_bare", .bl b)]
structure RdX (t : List Nat) (st : Rd) (h0 h : PH) (p w v : Addr) (rs : List Addr) : Prop where
  e : Ext h0 h
  n : ∀ a ∈ p :: w :: v :: rs, h0 a = none
  d : (p :: w :: v :: rs).Nodup
  hp : h p = some (rO t st.sp w v st.br)
  hw : h w = some (.lst (st.ws.reverse.map .str))
  hv : h v = some (.lst (rs.reverse.map .ref))
  hl : rs.length = st.inn.length
  hr : ∀ (i : Nat) (a : Addr) (ks : List T), rs[i]? = some a → st.inn[i]? = some ks → h a = some (.lst (encs ks))
def RdH (t : List Nat) (st : Rd) (h0 h : PH) (p : Addr) : Prop := ∃ w v rs, RdX t st h0 h p w v rs
section
variable {t : List Nat} {st : Rd} {h0 h h' : PH} {p w v : Addr} {rs : List Addr}
theorem RdX.ext (x : RdX t st h0 h p w v rs) (a : Addr) (m : a ∈ p :: w :: v :: rs) (e : ExtBut a h h') : Ext h0 h' := fun b u z => e b u (fun q => by rw [q, x.n a m] at z; cases z) (x.e b u z)
theorem RdX.ne (x : RdX t st h0 h p w v rs) : p ≠ w ∧ p ≠ v ∧ w ≠ v ∧ (∀ a ∈ rs, a ≠ p ∧ a ≠ w ∧ a ≠ v) ∧ rs.Nodup := by
  have d := x.d
  simp only [List.nodup_cons, List.mem_cons, not_or] at d
  obtain ⟨⟨d1, d2, d3⟩, ⟨d4, d5⟩, d6, d7⟩ := d
  exact ⟨d1, d2, d4, fun a m => ⟨fun z => d3 (z ▸ m), fun z => d5 (z ▸ m), fun z => d6 (z ▸ m)⟩, d7⟩
/-- the fields put otherwise -/
theorem RdX.put (x : RdX t st h0 h p w v rs) (sp : Nat) (b : Bool) (hp : h' p = some (rO t sp w v b)) (e : ExtBut p h h') : RdX t { st with sp := sp, br := b } h0 h' p w v rs := by
  obtain ⟨n1, n2, n3, n4, n5⟩ := x.ne
  exact ⟨x.ext p (by simp) e, x.n, x.d, hp, e _ _ n1.symm x.hw, e _ _ n2.symm x.hv, x.hl, fun i a ks q1 q2 => e _ _ (n4 a (List.mem_of_getElem? q1)).1 (x.hr i a ks q1 q2)⟩
/-- a word is told -/
theorem RdX.word (x : RdX t st h0 h p w v rs) (ws : List (List Nat)) (hw : h' w = some (.lst (ws.reverse.map .str))) (e : ExtBut w h h') : RdX t { st with ws := ws } h0 h' p w v rs := by
  obtain ⟨n1, n2, n3, n4, n5⟩ := x.ne
  exact ⟨x.ext w (by simp) e, x.n, x.d, e _ _ n1 x.hp, hw, e _ _ n3.symm x.hv, x.hl, fun i a ks q1 q2 => e _ _ (n4 a (List.mem_of_getElem? q1)).2.1 (x.hr i a ks q1 q2)⟩
/-- a new list of parts -/
theorem RdX.push (x : RdX t st h0 h p w v rs) {h1 : PH} {q : Addr} (nq : h q = none) (hq : h1 q = some (.lst [])) (e1 : Ext h h1) (hv : h' v = some (.lst ((q :: rs).reverse.map .ref))) (e : ExtBut v h1 h') : RdX t { st with inn := [] :: st.inn } h0 h' p w v (q :: rs) := by
  obtain ⟨n1, n2, n3, n4, n5⟩ := x.ne
  have qp : q ≠ p := fun z => by rw [z, x.hp] at nq; cases nq
  have qw : q ≠ w := fun z => by rw [z, x.hw] at nq; cases nq
  have qv : q ≠ v := fun z => by rw [z, x.hv] at nq; cases nq
  have told : ∀ a ∈ rs, ∃ o, h a = some o := fun a m => by
    obtain ⟨i, hi, rfl⟩ := List.mem_iff_getElem.mp m
    have : i < st.inn.length := by rw [← x.hl]; exact hi
    exact ⟨_, x.hr i _ _ (List.getElem?_eq_getElem hi) (List.getElem?_eq_getElem this)⟩
  have qr : q ∉ rs := fun m => by
    obtain ⟨o, z⟩ := told q m
    rw [z] at nq; cases nq
  have h0q : h0 q = none := by
    cases z : h0 q with
    | none => rfl
    | some o => rw [x.e q o z] at nq; cases nq
  refine ⟨fun b u z => e b u (fun y => by rw [y, x.n v (by simp)] at z; cases z) (e1 b u (x.e b u z)), fun a m => ?_, ?_, e _ _ n2 (e1 _ _ x.hp), e _ _ n3 (e1 _ _ x.hw), hv, by simp [x.hl], fun i a ks q1 q2 => ?_⟩
  · simp only [List.mem_cons] at m
    rcases m with rfl | rfl | rfl | rfl | m
    · exact x.n _ (by simp)
    · exact x.n _ (by simp)
    · exact x.n _ (by simp)
    · exact h0q
    · exact x.n _ (by simp [m])
  · have d := x.d
    simp only [List.nodup_cons, List.mem_cons, not_or] at d ⊢
    obtain ⟨⟨d1, d2, d3⟩, ⟨d4, d5⟩, d6, d7⟩ := d
    exact ⟨⟨d1, d2, fun z => qp z.symm, d3⟩, ⟨d4, fun z => qw z.symm, d5⟩, ⟨fun z => qv z.symm, d6⟩, qr, d7⟩
  · cases i with
    | zero =>
      simp at q1 q2
      subst q1 q2
      exact e _ _ qv (by simpa [encs] using hq)
    | succ i =>
      simp at q1 q2
      have m := List.mem_of_getElem? q1
      exact e _ _ (n4 a m).2.2 (e1 _ _ (x.hr i a ks q1 q2))
/-- the last part is shut -/
theorem RdX.shut {w0 : List Nat} {ws : List (List Nat)} {ks js : List T} {inn : List (List T)} {a b : Addr} {rs2 : List Addr} {h1 h2 : PH} (x : RdX t st h0 h p w v (a :: b :: rs2)) (ew : st.ws = w0 :: ws) (ei : st.inn = ks :: js :: inn)
    (hv : h1 v = some (.lst ((b :: rs2).reverse.map .ref))) (e1 : ExtBut v h h1) (hw : h2 w = some (.lst (ws.reverse.map .str))) (e2 : ExtBut w h1 h2) (hb : h' b = some (.lst (encs js ++ [enc (.node w0 ks)]))) (e3 : ExtBut b h2 h') : RdX t st.shut h0 h' p w v (b :: rs2) := by
  obtain ⟨n1, n2, n3, n4, n5⟩ := x.ne
  have nb := n4 b (by simp)
  have e0 : Ext h0 h' := fun c u z => e3 c u (fun q => by rw [q, x.n b (by simp)] at z; cases z) (e2 c u (fun q => by rw [q, x.n w (by simp)] at z; cases z) (e1 c u (fun q => by rw [q, x.n v (by simp)] at z; cases z) (x.e c u z)))
  have es : st.shut = { st with ws := ws, inn := (js ++ [.node w0 ks]) :: inn } := by unfold Rd.shut; rw [ew, ei]
  rw [es]
  refine ⟨e0, fun c m => x.n c ?_, ?_, e3 _ _ nb.1.symm (e2 _ _ n1 (e1 _ _ n2 x.hp)), e3 _ _ nb.2.1.symm hw, e3 _ _ nb.2.2.symm (e2 _ _ n3.symm hv), ?_, fun i c us q1 q2 => ?_⟩
  · simp only [List.mem_cons] at m ⊢
    rcases m with m | m | m | m | m <;> simp [m]
  · have d := x.d
    simp only [List.nodup_cons, List.mem_cons, not_or] at d ⊢
    obtain ⟨⟨d1, d2, d3, d4, d5⟩, ⟨d6, d7, d8, d9⟩, ⟨d10, d11, d12⟩, d13, d14, d15⟩ := d
    exact ⟨⟨d1, d2, d4, d5⟩, ⟨d6, d8, d9⟩, ⟨d11, d12⟩, d14, d15⟩
  · have := x.hl
    rw [ei] at this
    simp at this ⊢
    exact this
  · cases i with
    | zero =>
      simp at q1 q2
      subst q1 q2
      rw [encs_snoc]
      exact hb
    | succ i =>
      simp at q1 q2
      have m := List.mem_of_getElem? q1
      have nc := n4 c (by simp [m])
      have cb : c ≠ b := fun z => by
        simp only [List.nodup_cons, List.mem_cons, not_or] at n5
        exact n5.2.1 (z ▸ m)
      exact e3 _ _ cb (e2 _ _ nc.2.1 (e1 _ _ nc.2.2 (x.hr (i + 2) c us (by simpa using q1) (by rw [ei]; simpa using q2))))
end
theorem lead_take : ∀ (n : Nat) (s : List Nat), ∀ c ∈ s.take (lead n s), c ∈ lets
  | 0, s => by simp [lead]
  | n + 1, [] => by simp
  | n + 1, c :: s => by
    intro d m
    simp only [lead] at m
    by_cases z : c ∈ lets
    · rw [if_pos z, List.take_succ_cons] at m
      rcases List.mem_cons.mp m with rfl | m
      · exact z
      · exact lead_take n s d m
    · rw [if_neg z] at m
      simp at m
theorem isN_mk {s : List Nat} (h1 : 1 ≤ s.length) (h2 : s.length ≤ 8) (h3 : ∀ c ∈ s, c ∈ lets) : isN (.str s) = true := by
  simp only [isN, Bool.and_eq_true_iff, decide_eq_true_eq, List.all_eq_true]
  exact ⟨⟨h1, h2⟩, h3⟩
section
variable {t : List Nat} {st s2 : Rd}
theorem Rd.Ok.zero : Rd.zero.Ok t := ⟨rfl, Nat.zero_le _, by simp [Rd.zero], by simp [Rd.zero, woks], by simp [Rd.zero], rfl⟩
theorem Rd.Ok.begin (o : st.Ok t) (e : st.begin t = .ok s2) : s2.Ok t ∧ st.sp < s2.sp := by
  unfold Rd.begin at e
  by_cases z : lead 8 (t.drop st.sp) = 0
  · rw [if_pos z] at e; cases e
  · rw [if_neg z] at e
    cases e
    have l := lead_le 8 (t.drop st.sp)
    have hd : (t.drop st.sp).length = t.length - st.sp := by simp
    have := o.m
    have := o.s
    refine ⟨⟨by simp [o.l], by simp only []; omega, fun w m => ?_, fun ks m => ?_, by simp only [List.map_cons, List.sum_cons, List.length_nil, List.length_cons]; omega, ?_⟩, by simp only []; omega⟩
    · rcases List.mem_cons.mp m with rfl | m
      · exact isN_mk (by rw [List.length_take]; omega) (by rw [List.length_take]; omega) (lead_take _ _)
      · exact o.n w m
    · rcases List.mem_cons.mp m with rfl | m
      · rfl
      · exact o.k ks m
    · show ([] :: st.inn).getLast? = _
      have := o.b
      cases ei : st.inn with
      | nil => rw [ei] at this; cases this
      | cons a r => rw [ei] at this; rw [List.getLast?_cons_cons]; exact this
theorem Rd.Ok.shut (o : st.Ok t) (h : 1 < st.ws.length) : st.shut.Ok t ∧ st.shut.sp = st.sp := by
  have hl := o.l
  cases ew : st.ws with
  | nil => rw [ew] at h; cases h
  | cons w ws =>
    cases ei : st.inn with
    | nil => rw [ei] at hl; cases hl
    | cons ks r =>
      cases r with
      | nil => rw [ei, ew] at hl; simp at hl
      | cons js inn =>
        have es : st.shut = { st with ws := ws, inn := (js ++ [.node w ks]) :: inn } := by unfold Rd.shut; rw [ew, ei]
        rw [es]
        rw [ew, ei] at hl
        rw [ew] at h
        have on := o.n
        have ok := o.k
        have ob := o.b
        have om := o.m
        rw [ew] at on om
        rw [ei] at ok ob
        refine ⟨⟨by simp at hl ⊢; omega, o.s, fun z m => on z (by simp [m]), fun z m => ?_, by
          rw [ei] at om
          simp only [List.map_cons, List.sum_cons, List.length_cons, List.length_append, List.length_nil] at om ⊢
          omega, ?_⟩, rfl⟩
        · rcases List.mem_cons.mp m with rfl | m
          · rw [woks_snoc, ok js (by simp)]
            simp [wok, on w (by simp), ok ks (by simp)]
          · exact ok z (by simp [m])
        · show ((js ++ [.node w ks]) :: inn).getLast? = some []
          cases inn with
          | nil => simp only [List.length_cons, List.length_nil] at hl h; omega
          | cons a r => rw [List.getLast?_cons_cons] at ob ⊢; rw [List.getLast?_cons_cons] at ob; exact ob
theorem Rd.Ok.on {c : Nat} {r : List Nat} (o : st.Ok t) (ed : t.drop st.sp = c :: r) (e : st.on t c = .ok s2) : s2.Ok t ∧ st.sp < s2.sp := by
  have hlt : st.sp < t.length := by
    have : (t.drop st.sp).length = t.length - st.sp := by simp
    rw [ed] at this
    simp at this
    omega
  unfold Rd.on at e
  by_cases hm : st.may c = true
  · rw [if_pos hm] at e
    have o1 : ({ st with sp := st.sp + 1 } : Rd).Ok t := ⟨o.l, hlt, o.n, o.k, Nat.le_succ_of_le o.m, o.b⟩
    have o2 : (st.next c).Ok t ∧ (st.next c).sp = st.sp + 1 := by
      unfold Rd.next
      by_cases h4 : c = 40
      · rw [if_pos h4]; exact ⟨o1, rfl⟩
      · rw [if_neg h4]
        have : 1 < st.ws.length := by
          unfold Rd.may at hm
          simp [h4] at hm
          exact hm.2
        exact o1.shut this
    by_cases h1 : c = 41
    · rw [if_pos h1] at e
      cases e
      exact ⟨⟨o2.1.l, o2.1.s, o2.1.n, o2.1.k, o2.1.m, o2.1.b⟩, by simp only [o2.2]; omega⟩
    · rw [if_neg h1] at e
      have := o2.1.begin e
      rw [o2.2] at this
      exact ⟨this.1, by omega⟩
  · rw [if_neg hm] at e; cases e
end
/-! ### the methods -/
abbrev gL : Str := "LETTERS"
def E_init (cs : List Str) : S := .cons (.setF (.var 0) "text" (.var 1) cs) (.cons (.setF (.var 0) "spot" (.int 0) cs) (.cons (.setF (.var 0) "words" (.lst false .nil) cs) (.cons (.setF (.var 0) "inner" (.lst false (.cons (.lst false .nil) .nil)) cs) (.cons (.setF (.var 0) "is_bare" (.bl false) cs) .nil))))
def E_ahead (cs : List Str) : S := .cons (.ret (.sl true (.fld (.var 0) "text" cs) (.fld (.var 0) "spot" cs) (.op true .add (.fld (.var 0) "spot" cs) (.int 1)))) .nil
def E_rneed (cs : List Str) : S := .cons (.ife (.lnot (.var 1)) (.cons (.raise "BadText" ["at"] (.cons (.op true .add (.fld (.var 0) "spot" cs) (.int 1)) .nil)) .nil) .nil) .nil
def E_beginT (iA : Nat) (cs : List Str) : E := .land (.cons (.cmp .lt (.op true .sub (.fld (.var 0) "spot" cs) (.var 1)) (.gint "MOST_LETTERS" 8)) (.cons (.cmp .ne (.meth iA "Reader" "ahead" (.var 0) .nil) (.str [])) (.cons (.cmp .isin (.meth iA "Reader" "ahead" (.var 0) .nil) (.gstr "LETTERS" lets)) .nil)))
def E_begin2 (iN : Nat) (cs : List Str) : S := .cons (.expr (.meth iN "Reader" "need" (.var 0) (.cons (.cmp .gt (.fld (.var 0) "spot" cs) (.var 1)) .nil))) (.cons (.expr (.mth .append (.fld (.var 0) "words" cs) (.cons (.sl false (.fld (.var 0) "text" cs) (.var 1) (.fld (.var 0) "spot" cs)) .nil)))
  (.cons (.expr (.mth .append (.fld (.var 0) "inner" cs) (.cons (.lst false .nil) .nil))) (.cons (.setF (.var 0) "is_bare" (.bl true) cs) .nil)))
def E_begin (iN iA : Nat) (cs : List Str) : S := .cons (.set (.nm 1) (.fld (.var 0) "spot" cs)) (.cons (.whl (E_beginT iA cs) (.cons (.augF (.var 0) "spot" (.int 1) cs) .nil)) (E_begin2 iN cs))
def E_shut (cs : List Str) : S := .cons (.set (.nm 1) (.mth .pop (.fld (.var 0) "inner" cs) .nil)) (.cons (.expr (.mth .append (.ix (.fld (.var 0) "inner" cs) (.neg (.int 1))) (.cons (.tup (.cons (.mth .pop (.fld (.var 0) "words" cs) .nil) (.cons (.b1 .tuple (.var 1)) .nil))) .nil))) .nil)
def E_goon3 (iB : Nat) (cs : List Str) : S := .cons (.ife (.cmp .eq (.var 1) (.str [41])) (.cons (.setF (.var 0) "is_bare" (.bl false) cs) .nil) (.cons (.expr (.meth iB "Reader" "begin" (.var 0) .nil)) .nil)) .nil
def E_may (cs : List Str) : E := .lor (.cons (.land (.cons (.cmp .eq (.var 1) (.str [40])) (.cons (.fld (.var 0) "is_bare" cs) .nil))) (.cons (.land (.cons (.cmp .isin (.var 1) (.tup (.cons (.str [44]) (.cons (.str [41]) .nil)))) (.cons (.cmp .gt (.b1 .len (.fld (.var 0) "words" cs)) (.int 1)) .nil))) .nil))
def E_goon (iN iA iB iS : Nat) (cs : List Str) : S := .cons (.set (.nm 1) (.meth iA "Reader" "ahead" (.var 0) .nil)) (.cons (.expr (.meth iN "Reader" "need" (.var 0) (.cons (E_may cs) .nil)))
  (.cons (.augF (.var 0) "spot" (.int 1) cs) (.cons (.ife (.cmp .ne (.var 1) (.str [40])) (.cons (.expr (.meth iS "Reader" "shut" (.var 0) .nil)) .nil) .nil) (E_goon3 iB cs))))
def E_rwhole2 (iN iS : Nat) (cs : List Str) : S := .cons (.expr (.meth iN "Reader" "need" (.var 0) (.cons (.cmp .eq (.b1 .len (.fld (.var 0) "words" cs)) (.int 1)) .nil)))
  (.cons (.expr (.meth iS "Reader" "shut" (.var 0) .nil)) (.cons (.ret (.ix (.ix (.fld (.var 0) "inner" cs) (.int 0)) (.int 0))) .nil))
def E_rwhole (iN iA iB iS iG : Nat) (cs : List Str) : S := .cons (.expr (.meth iB "Reader" "begin" (.var 0) .nil)) (.cons (.whl (.cmp .ne (.meth iA "Reader" "ahead" (.var 0) .nil) (.str [])) (.cons (.expr (.meth iG "Reader" "go_on" (.var 0) .nil)) .nil)) (E_rwhole2 iN iS cs))
def badT (i : Nat) : Exc := ⟨"BadText", [("at", .int (i : Nat))]⟩
def spInit : DSp := fun ds h _ Q => ∃ (p : Addr) (t : List Nat) (h0 : PH), ds = [.ref p, .str t] ∧ h p = some (.ins "Reader" []) ∧ h0 p = none ∧ Ext h0 h ∧ ∀ h', RdH t .zero h0 h' p → Q .non h'
def spAhead : DSp := fun ds h _ Q => ∃ (p : Addr) (t : List Nat) (st : Rd) (h0 : PH), ds = [.ref p] ∧ RdH t st h0 h p ∧ t.length ≤ 100000 ∧ Q (.str ((t.drop st.sp).take 1)) h
def spRneed : DSp := fun ds h xq Q => ∃ (p : Addr) (b : Bool) (t : List Nat) (st : Rd) (h0 : PH), ds = [.ref p, .bl b] ∧ RdH t st h0 h p ∧ (b = true → Q .non h) ∧ (b = false → xq (badT (st.sp + 1)) h)
def ends (t : List Nat) (h0 : PH) (p : Addr) (r : Re) (xq : XQ) (Q : D → PH → Prop) : Prop := match r with
  | .ok s2 => ∀ h', RdH t s2 h0 h' p → Q .non h'
  | .bad e => ∀ h', Ext h0 h' → xq (badT e) h'
def spBegin : DSp := fun ds h xq Q => ∃ (p : Addr) (t : List Nat) (st : Rd) (h0 : PH), ds = [.ref p] ∧ RdH t st h0 h p ∧ st.Ok t ∧ t.length ≤ 100000 ∧ ends t h0 p (st.begin t) xq Q
def spShut : DSp := fun ds h _ Q => ∃ (p : Addr) (t : List Nat) (st : Rd) (h0 : PH), ds = [.ref p] ∧ RdH t st h0 h p ∧ st.Ok t ∧ 1 ≤ st.ws.length ∧ t.length ≤ 100000 ∧ ∀ h', RdH t st.shut h0 h' p → Q .non h'
def spGoon : DSp := fun ds h xq Q => ∃ (p : Addr) (t : List Nat) (st : Rd) (h0 : PH) (c : Nat) (r : List Nat), ds = [.ref p] ∧ RdH t st h0 h p ∧ st.Ok t ∧ t.length ≤ 100000 ∧ t.drop st.sp = c :: r ∧ ends t h0 p (st.on t c) xq Q
def spRwhole : DSp := fun ds h xq Q => ∃ (p : Addr) (t : List Nat) (h0 : PH), ds = [.ref p] ∧ RdH t .zero h0 h p ∧ t.length ≤ 100000 ∧ match Rd.all t with
  | .ok u => ∀ h', Ext h0 h' → Q (enc u) h'
  | .bad e => ∀ h', Ext h0 h' → xq (badT e) h'
section
variable {fs : List (Str × D)} {x y z u b : D}
abbrev rF (x y z u b : D) : List (Str × D) := [("text", x), ("spot", y), ("words", z), ("inner", u), ("is_bare", b)]
@[simp] theorem lk1 : (rF x y z u b).lookup ("text" : Str) = some x := rfl
@[simp] theorem lk2 : (rF x y z u b).lookup ("spot" : Str) = some y := by rfl
@[simp] theorem lk3 : (rF x y z u b).lookup ("words" : Str) = some z := by rfl
@[simp] theorem lk4 : (rF x y z u b).lookup ("inner" : Str) = some u := by rfl
@[simp] theorem lk5 : (rF x y z u b).lookup ("is_bare" : Str) = some b := by rfl
@[simp] theorem pf2 {v : D} : putFs "spot" v (rF x y z u b) = rF x v z u b := by rfl
@[simp] theorem pf5 {v : D} : putFs "is_bare" v (rF x y z u b) = rF x y z u v := by rfl
@[simp] theorem nm1 : (rF x y z u b).lookup ("ahead" : Str) = none := by rfl
@[simp] theorem nm2 : (rF x y z u b).lookup ("need" : Str) = none := by rfl
@[simp] theorem nm3 : (rF x y z u b).lookup ("begin" : Str) = none := by rfl
@[simp] theorem nm4 : (rF x y z u b).lookup ("shut" : Str) = none := by rfl
@[simp] theorem nm5 : (rF x y z u b).lookup ("go_on" : Str) = none := by rfl
@[simp] theorem nm6 : (rF x y z u b).lookup ("whole" : Str) = none := by rfl
end
theorem cut_mid {α : Type} (l : List α) (a b : Nat) (h : a ≤ b) : cutL l (some (a : Int)) (some (b : Int)) = (l.drop a).take (b - a) := by
  unfold cutL
  rw [HT.sIx_nat, HT.sIx_nat]
  by_cases z : a ≤ l.length
  · rw [show min a l.length = a by omega]
    by_cases y : b ≤ l.length
    · rw [show min b l.length = b by omega]
    · rw [show min b l.length = l.length by omega, List.take_of_length_le (by simp), List.take_of_length_le (by simp; omega)]
  · rw [List.drop_eq_nil_of_le (by omega), List.drop_eq_nil_of_le (by omega)]
    simp
section
variable {sps : List DSp} {cs : List Str} (hcs : ("Reader" : Str) ∈ cs)
include hcs
theorem b_ahead (ds h xq Q) (q : spAhead ds h xq Q) : body sps (E_ahead cs) 1 ds h xq Q := by
  obtain ⟨p, t, st, h0, rfl, ⟨w, v, rs, x⟩, hl, hQ⟩ := q
  simp [body, E_ahead, startD, x.hp, hcs, sl_str]
  refine ⟨by rw [sz]; omega, ?_⟩
  rw [show ((st.sp : Int) + 1) = ((st.sp + 1 : Nat) : Int) by omega, cut_mid _ _ _ (by omega)]
  simpa using hQ
theorem b_rneed (ds h xq Q) (q : spRneed ds h xq Q) : body sps (E_rneed cs) 2 ds h xq Q := by
  obtain ⟨p, b, t, st, h0, rfl, ⟨w, v, rs, x⟩, q1, q2⟩ := q
  simp [body, E_rneed, startD]
  cases b with
  | true => simpa using q1 rfl
  | false =>
    simp [x.hp, hcs]
    have := q2 rfl
    unfold badT at this
    simpa using this
end
def spotOf (h : PH) (p : Addr) : Nat := match h p with
  | some (.ins _ fs) => (match fs.lookup ("spot" : Str) with
    | some (.int i) => i.toNat
    | _ => 0)
  | _ => 0
theorem RdX.spot {t : List Nat} {st : Rd} {h0 h : PH} {p w v : Addr} {rs : List Addr} (x : RdX t st h0 h p w v rs) : spotOf h p = st.sp := by
  simp [spotOf, x.hp]
section
variable {sps : List DSp} {cs : List Str} (hcs : ("Reader" : Str) ∈ cs)
include hcs
theorem b_begin (iN iA : Nat) (eN : sps[iN]? = some spRneed) (eA : sps[iA]? = some spAhead) (ds h xq Q) (q : spBegin ds h xq Q) : body sps (E_begin iN iA cs) 2 ds h xq Q := by
  obtain ⟨p, t, st, h0, rfl, ⟨w, v, rs, x⟩, ok, hl, hE⟩ := q
  have fin : ∀ (j : Nat) (h' : PH), RdX t { st with sp := st.sp + j } h0 h' p w v rs → lead 8 (t.drop st.sp) = j → rdS sps (E_begin2 iN cs) { nx := fun _ h' => Q .non h', rt := Q, xq := fun _ => xq } [some (.ref p), some (.int st.sp)] h' := by
    intro j h' x' ej
    simp [-List.lookup_eq_none_iff, E_begin2, x'.hp, hcs]
    refine spAt_ok eN ⟨p, _, t, _, h0, rfl, ⟨w, v, rs, x'⟩, fun hb => ?_, fun hb => ?_⟩
    · have j0 : 0 < j := by have := of_decide_eq_true hb; omega
      simp [-List.lookup_eq_none_iff, x'.hp, hcs, tyB_append x'.hw, sl_str]
      refine ⟨by rw [sz]; omega, ?_⟩
      rw [show ((st.sp : Int) + (j : Int)) = ((st.sp + j : Nat) : Int) by omega, cut_mid _ _ _ (by omega), append_mth x'.hw]
      have om := ok.m
      have os := ok.s
      refine ⟨by simp; rw [sz]; omega, fun h1 hw1 e1 => ?_⟩
      have x1 := x'.word (((t.drop st.sp).take (st.sp + j - st.sp)) :: st.ws) (by simpa using hw1) e1
      simp [-List.lookup_eq_none_iff, x1.hp, hcs, tyB_append x1.hv]
      intro q h2 nq hq e2
      have hv2 := e2 _ _ x1.hv
      rw [append_mth hv2]
      have hlr := x1.hl
      have okl := ok.l
      simp only [] at hlr
      refine ⟨by simp [-List.lookup_eq_none_iff, hlr, okl]; rw [sz]; omega, fun h3 hv3 e3 => ?_⟩
      have x3 := x1.push nq hq e2 (h' := h3) (by simpa using hv3) e3
      simp [-List.lookup_eq_none_iff, x3.hp, hcs]
      intro h4 hp4 e4
      have x4 := x3.put (st.sp + j) true hp4 e4
      unfold ends Rd.begin at hE
      rw [ej, if_neg (by omega)] at hE
      rw [show st.sp + j - st.sp = j by omega] at x4
      exact hE h4 ⟨w, v, q :: rs, x4⟩
    · have j0 : j = 0 := by
        have : ¬ 0 < j := by have := of_decide_eq_false hb; omega
        omega
      subst j0
      unfold ends Rd.begin at hE
      rw [ej, if_pos rfl] at hE
      have := hE h' x'.e
      simpa using this
  simp [-List.lookup_eq_none_iff, body, E_begin, startD, x.hp, hcs]
  refine ⟨9, whileN_inv (fun ρ h' => ∃ j, ρ = [some (.ref p), some (.int st.sp)] ∧ RdX t { st with sp := st.sp + j } h0 h' p w v rs ∧ j ≤ 8 ∧ lead 8 (t.drop st.sp) = j + lead (8 - j) (t.drop (st.sp + j))) (fun ρ h' => st.sp + 8 - spotOf h' p) ?_ _ _ _ ⟨0, rfl, x, by omega, by simp⟩ (by rw [x.spot]; omega)⟩
  rintro ρ h' ⟨j, rfl, x', hj, ej⟩ N hN
  simp [-List.lookup_eq_none_iff, E_beginT, x'.hp, hcs]
  by_cases j8 : j = 8
  · have d8 : ¬ ((st.sp : Int) + (j : Int) - (st.sp : Int) < 8) := by omega
    simp [-List.lookup_eq_none_iff, d8]
    exact fin j h' x' (by rw [ej, j8]; simp [lead])
  · have d8 : ((st.sp : Int) + (j : Int) - (st.sp : Int) < 8) := by omega
    simp [-List.lookup_eq_none_iff, d8]
    refine spAt_ok eA ⟨p, t, _, h0, rfl, ⟨w, v, rs, x'⟩, hl, ?_⟩
    have e8 : 8 - j = (7 - j) + 1 := by omega
    cases ed : t.drop (st.sp + j) with
    | nil =>
      simp [-List.lookup_eq_none_iff]
      refine fin j h' x' ?_
      rw [ej, ed, e8]
      rfl
    | cons c r =>
      simp [-List.lookup_eq_none_iff]
      simp [-List.lookup_eq_none_iff, x'.hp]
      refine spAt_ok eA ⟨p, t, _, h0, rfl, ⟨w, v, rs, x'⟩, hl, ?_⟩
      simp [-List.lookup_eq_none_iff, ed]
      have el : lead (8 - j) (t.drop (st.sp + j)) = if c ∈ lets then lead (7 - j) r + 1 else 0 := by
        rw [ed, e8]
        rfl
      by_cases hc : c ∈ lets
      · simp [-List.lookup_eq_none_iff, hc, x'.hp, hcs]
        intro h1 hp1 e1
        have x1 := x'.put (st.sp + j + 1) st.br hp1 e1
        refine hN _ _ ⟨j + 1, rfl, x1, by omega, ?_⟩ ?_
        · rw [ej, el, if_pos hc, show st.sp + (j + 1) = st.sp + j + 1 by omega, show 8 - (j + 1) = 7 - j by omega]
          have : t.drop (st.sp + j + 1) = r := by
            rw [← List.drop_drop, ed]
            rfl
          rw [this]
          omega
        · rw [x1.spot, x'.spot]
          simp only []
          omega
      · simp [-List.lookup_eq_none_iff, hc]
        refine fin j h' x' ?_
        rw [ej, el, if_neg hc]
        rfl
omit hcs in
theorem ix_last {α : Type} {l : List α} {a : α} : atI (l ++ [a]) (-1) = some a := by
  unfold atI ixN
  rw [if_neg (by omega), if_pos (by simp only [List.length_append, List.length_cons, List.length_nil]; omega)]
  show (l ++ [a])[((-1 : Int) + ((l ++ [a]).length : Nat)).toNat]? = some a
  rw [show ((-1 : Int) + ((l ++ [a]).length : Nat)).toNat = l.length by simp only [List.length_append, List.length_cons, List.length_nil]; omega]
  simp
omit hcs in
theorem pop_mth {p : Addr} {y : D} {ds : List D} {h : PH} {Q : D → PH → Prop} (e : h p = some (.lst (ds ++ [y]))) : mthD .pop (.ref p) [] h Q = put p (.lst ds) h fun h' => Q y h' := by
  have e1 : (ds ++ [y])[(ds ++ [y]).length - 1]? = some y := by simp
  have e2 : (ds ++ [y]).dropLast = ds := List.dropLast_concat ..
  simp only [mthD, e, e1, e2]
omit hcs in
theorem tyB_pop {p : Addr} {ds : List D} {h : PH} (e : h p = some (.lst ds)) : tyB .pop (.ref p) h = true := by simp only [tyB, rdM, e, Option.isSome_some]
theorem b_shut (ds h xq Q) (q : spShut ds h xq Q) : body sps (E_shut cs) 2 ds h xq Q := by
  obtain ⟨p, t, st, h0, rfl, ⟨w, v, rs, x⟩, ok, h1, hl, hQ⟩ := q
  cases ew : st.ws with
  | nil => rw [ew] at h1; simp at h1
  | cons w0 ws =>
    cases ei : st.inn with
    | nil => have := ok.l; rw [ei] at this; cases this
    | cons ks r =>
      cases r with
      | nil => have := ok.l; rw [ei, ew] at this; simp at this
      | cons js inn =>
        have hlr := x.hl
        rw [ei] at hlr
        match rs, x, hlr with
        | a :: b :: rs2, x, _ =>
          have hv := x.hv
          have ha := x.hr 0 a ks rfl (by rw [ei]; rfl)
          have hb := x.hr 1 b js rfl (by rw [ei]; rfl)
          have hw := x.hw
          rw [ew] at hw
          obtain ⟨n1, n2, n3, n4, n5⟩ := x.ne
          have na := n4 a (by simp)
          have nb := n4 b (by simp)
          have nab : a ≠ b := by
            simp only [List.nodup_cons, List.mem_cons, not_or] at n5
            exact n5.1.1
          simp only [List.reverse_cons, List.append_assoc, List.map_append, List.map_cons, List.map_nil] at hv hw
          rw [← List.append_assoc] at hv
          simp only [body, E_shut, startD, rdS_cons, rdS_set, rdS_expr, rdS_nil, rdE_mth, rdE_fld, rdE_ix, rdE_neg, rdE_int, rdE_tup, rdE_b1, rdE_var, rdA_cons, rdA_nil, List.map_cons, List.map_nil, List.length_cons, List.length_nil, List.cons_append, List.nil_append, List.getElem?_cons_zero, x.hp, lk3, lk4, hcs, true_and]
          refine ⟨tyB_pop hv, ?_⟩
          rw [pop_mth hv]
          intro h1 hv1 e1
          have hp1 := e1 _ _ n2 x.hp
          have hw1 := e1 _ _ n3 hw
          have hb1 := e1 _ _ nb.2.2 hb
          have ha1 := e1 _ _ na.2.2 ha
          have ix : ∀ R : D → PH → Prop, ixD (.ref v) (.int (-1)) h1 R = R (.ref b) h1 := fun R => by simp only [ixD, hv1, ix_last]
          simp only [asg_nm, List.set_cons_succ, List.set_cons_zero, List.replicate_succ, List.replicate_zero, List.getElem?_cons_zero, List.getElem?_cons_succ, hp1, lk3, lk4, hcs, true_and, ix, tyB_append hb1, tyB_pop hw1, pop_mth hw1]
          intro h2 hw2 e2
          have ha2 := e2 _ _ na.2.1 ha1
          have hb2 := e2 _ _ nb.2.1 hb1
          simp only [b1D, rdQ, rdL, ha2, append_mth hb2]
          refine ⟨by rw [sz]; omega, ?_, ?_⟩
          · have om := ok.m
            have os := ok.s
            rw [ei] at om
            simp only [List.map_cons, List.sum_cons] at om
            rw [encs_len, sz]
            omega
          intro h3 hb3 e3
          exact hQ _ ⟨w, v, b :: rs2, x.shut ew ei (by simpa using hv1) e1 hw2 e2 (by simpa [enc] using hb3) e3⟩
theorem may_ok {t : List Nat} {st : Rd} {h0 h : PH} {p w v : Addr} {rs : List Addr} (x : RdX t st h0 h p w v rs) (c : Nat) (xq : XQ) (Q : D → PH → Prop) (q : Q (.bl (st.may c)) h) : rdE sps (E_may cs) [some (.ref p), some (.str [c])] h xq Q := by
  have ln : ((st.ws.length : Int) > 1) ↔ 1 < st.ws.length := by omega
  by_cases h4 : c = 40
  · subst h4
    cases hb : st.br with
    | true =>
      simp [Rd.may, hb] at q
      simp [-List.lookup_eq_none_iff, E_may, x.hp, hcs, hb]
      exact q
    | false =>
      simp [Rd.may, hb] at q
      simp [-List.lookup_eq_none_iff, E_may, x.hp, hcs, hb, cmpD, inQ, flatD, eqF, sz]
      exact q
  · simp [-List.lookup_eq_none_iff, E_may, x.hp, hcs, h4, cmpD, inQ, flatD, eqF, sz, eqQ]
    have e2 : decide ((1 : Int) < (st.ws.length : Int)) = decide (1 < st.ws.length) := decide_eq_decide.mpr (by omega)
    by_cases h5 : c = 44 ∨ c = 41
    · have e1 : (decide (c = 44) || decide (c = 41)) = true := by simpa using h5
      have e3 : (decide (44 = c) || decide (41 = c)) = true := by
        rcases h5 with h5 | h5 <;> simp [h5]
      rw [e3]
      simp [-List.lookup_eq_none_iff, x.hp, hcs, b1D, rdQ, rdL, x.hw, e2]
      simp [Rd.may, h4, e1] at q
      exact q
    · have e1 : (decide (c = 44) || decide (c = 41)) = false := by simpa using h5
      have e3 : (decide (44 = c) || decide (41 = c)) = false := by
        simp only [not_or] at h5
        simp only [Bool.or_eq_false_iff, decide_eq_false_iff_not]
        exact ⟨fun z => h5.1 z.symm, fun z => h5.2 z.symm⟩
      rw [e3]
      simp only [Rd.may, h4, e1, decide_false, Bool.false_and, Bool.false_or] at q
      exact q
theorem b_goon3 (iB : Nat) (eB : sps[iB]? = some spBegin) {t : List Nat} {s2 : Rd} {h0 h' : PH} {p : Addr} (x : RdH t s2 h0 h' p) (o : s2.Ok t) (c : Nat) (hl : t.length ≤ 100000) (xq : XQ) (Q : D → PH → Prop)
    (hE : ends t h0 p (if c = 41 then .ok { s2 with br := false } else s2.begin t) xq Q) : rdS sps (E_goon3 iB cs) { nx := fun _ h' => Q .non h', rt := Q, xq := fun _ => xq } [some (.ref p), some (.str [c])] h' := by
  obtain ⟨w, v, rs, x⟩ := x
  by_cases h1 : c = 41
  · rw [if_pos h1] at hE
    simp [-List.lookup_eq_none_iff, E_goon3, h1, x.hp, hcs]
    intro h1 hp1 e1
    exact hE h1 ⟨w, v, rs, x.put s2.sp false hp1 e1⟩
  · rw [if_neg h1] at hE
    simp [-List.lookup_eq_none_iff, E_goon3, h1, x.hp, hcs]
    exact spAt_ok eB ⟨p, t, s2, h0, rfl, ⟨w, v, rs, x⟩, o, hl, hE⟩
theorem b_goon (iN iA iB iS : Nat) (eN : sps[iN]? = some spRneed) (eA : sps[iA]? = some spAhead) (eB : sps[iB]? = some spBegin) (eS : sps[iS]? = some spShut) (ds h xq Q) (q : spGoon ds h xq Q) : body sps (E_goon iN iA iB iS cs) 2 ds h xq Q := by
  obtain ⟨p, t, st, h0, c, r, rfl, ⟨w, v, rs, x⟩, ok, hl, ed, hE⟩ := q
  simp [-List.lookup_eq_none_iff, body, E_goon, startD, x.hp]
  refine spAt_ok eA ⟨p, t, st, h0, rfl, ⟨w, v, rs, x⟩, hl, ?_⟩
  simp [-List.lookup_eq_none_iff, ed, x.hp]
  refine may_ok hcs x c _ _ ?_
  refine spAt_ok eN ⟨p, _, t, st, h0, rfl, ⟨w, v, rs, x⟩, fun hb => ?_, fun hb => ?_⟩
  · unfold Rd.on at hE
    rw [if_pos hb] at hE
    simp [-List.lookup_eq_none_iff, x.hp, hcs]
    intro h1 hp1 e1
    have x1 := x.put (st.sp + 1) st.br hp1 e1
    have hlt : st.sp < t.length := by
      have : (t.drop st.sp).length = t.length - st.sp := by simp
      rw [ed] at this
      simp at this
      omega
    have o1 : ({ st with sp := st.sp + 1 } : Rd).Ok t := ⟨ok.l, hlt, ok.n, ok.k, Nat.le_succ_of_le ok.m, ok.b⟩
    unfold Rd.next at hE
    by_cases h4 : c = 40
    · rw [if_pos h4] at hE
      simp [-List.lookup_eq_none_iff, h4]
      rw [← h4]
      exact b_goon3 hcs iB eB ⟨w, v, rs, x1⟩ o1 c hl xq Q hE
    · rw [if_neg h4] at hE
      have hw : 1 < st.ws.length := by
        unfold Rd.may at hb
        simp [h4] at hb
        exact hb.2
      simp [-List.lookup_eq_none_iff, h4, x1.hp]
      refine spAt_ok eS ⟨p, t, _, h0, rfl, ⟨w, v, rs, x1⟩, o1, by simp only []; omega, hl, fun h2 x2 => ?_⟩
      exact b_goon3 hcs iB eB x2 (o1.shut hw).1 c hl xq Q hE
  · unfold Rd.on at hE
    rw [hb, if_neg (by simp)] at hE
    have := hE h x.e
    unfold badT at this ⊢
    simpa using this
theorem b_rwhole2 (iN iS : Nat) (eN : sps[iN]? = some spRneed) (eS : sps[iS]? = some spShut) {t : List Nat} {s : Rd} {h0 h' : PH} {p : Addr} (x : RdH t s h0 h' p) (ok : s.Ok t) (hl : t.length ≤ 100000) (xq : XQ) (Q : D → PH → Prop)
    (hE : match (match s.ws, s.inn with
      | [w], ks :: _ => Rt.ok (.node w ks)
      | _, _ => .bad (s.sp + 1)) with
    | .ok u => ∀ h', Ext h0 h' → Q (enc u) h'
    | .bad e => ∀ h', Ext h0 h' → xq (badT e) h') : rdS sps (E_rwhole2 iN iS cs) { nx := fun _ h' => Q .non h', rt := Q, xq := fun _ => xq } [some (.ref p)] h' := by
  obtain ⟨w, v, rs, x⟩ := x
  simp [-List.lookup_eq_none_iff, E_rwhole2, x.hp, hcs, b1D, rdQ, rdL, x.hw]
  refine spAt_ok eN ⟨p, _, t, s, h0, rfl, ⟨w, v, rs, x⟩, fun hb => ?_, fun hb => ?_⟩
  · have h1 := of_decide_eq_true hb
    have hw1 : s.ws.length = 1 := by omega
    have ol := ok.l
    have ob := ok.b
    match ew : s.ws, ei : s.inn, hw1, ol with
    | [w0], [ks, js], _, _ =>
      rw [ei] at ob
      have ej : js = [] := by simpa using ob
      subst ej
      rw [ew, ei] at hE
      simp [-List.lookup_eq_none_iff, x.hp]
      refine spAt_ok eS ⟨p, t, s, h0, rfl, ⟨w, v, rs, x⟩, ok, by rw [ew]; simp, hl, fun h2 ⟨w2, v2, rs2, x2⟩ => ?_⟩
      have es : s.shut = { s with ws := [], inn := [[.node w0 ks]] } := by unfold Rd.shut; rw [ew, ei]; rfl
      rw [es] at x2
      have hlr := x2.hl
      match rs2, x2, hlr with
      | [b], x2, _ =>
        have hb2 := x2.hr 0 b _ rfl rfl
        have hv2 := x2.hv
        simp [-List.lookup_eq_none_iff, x2.hp, hcs, ixD, hv2, atI, ixN, hb2, encs]
        exact hE h2 x2.e
  · have h1 := of_decide_eq_false hb
    have hw1 : s.ws.length ≠ 1 := by omega
    have : (match s.ws, s.inn with
      | [w], ks :: _ => Rt.ok (.node w ks)
      | _, _ => .bad (s.sp + 1)) = .bad (s.sp + 1) := by
      split
      · rename_i e _
        rw [e] at hw1
        simp at hw1
      · rfl
    rw [this] at hE
    have := hE h' x.e
    unfold badT at this ⊢
    simpa using this
theorem b_rwhole (iN iA iB iS iG : Nat) (eN : sps[iN]? = some spRneed) (eA : sps[iA]? = some spAhead) (eB : sps[iB]? = some spBegin) (eS : sps[iS]? = some spShut) (eG : sps[iG]? = some spGoon) (ds h xq Q) (q : spRwhole ds h xq Q) : body sps (E_rwhole iN iA iB iS iG cs) 1 ds h xq Q := by
  obtain ⟨p, t, h0, rfl, ⟨w, v, rs, x⟩, hl, hE⟩ := q
  simp [-List.lookup_eq_none_iff, body, E_rwhole, startD, x.hp]
  refine spAt_ok eB ⟨p, t, .zero, h0, rfl, ⟨w, v, rs, x⟩, .zero, hl, ?_⟩
  unfold Rd.all at hE
  cases eb : Rd.zero.begin t with
  | bad e =>
    rw [eb] at hE
    exact hE
  | ok s1 =>
    rw [eb] at hE
    dsimp only at hE
    intro h1 x1
    refine ⟨t.length + 1, whileN_inv (fun ρ h' => ∃ s n, ρ = [some (.ref p)] ∧ RdH t s h0 h' p ∧ s.Ok t ∧ t.length ≤ s.sp + n ∧ s.run t n = s1.run t t.length) (fun ρ h' => t.length - spotOf h' p) ?_ _ _ _ ⟨s1, t.length, rfl, x1, (Rd.Ok.zero.begin eb).1, by omega, rfl⟩ (by omega)⟩
    rintro ρ h' ⟨s, n, rfl, ⟨w', v', rs', x'⟩, ok, hn, er⟩ N hN
    simp [-List.lookup_eq_none_iff, x'.hp]
    refine spAt_ok eA ⟨p, t, s, h0, rfl, ⟨w', v', rs', x'⟩, hl, ?_⟩
    cases ed : t.drop s.sp with
    | nil =>
      simp
      have e2 : s.run t n = .ok s := by
        cases n with
        | zero => rfl
        | succ n => simp only [Rd.run, ed]
      rw [e2] at er
      rw [← er] at hE
      exact b_rwhole2 hcs iN iS eN eS ⟨w', v', rs', x'⟩ ok hl xq Q hE
    | cons c r =>
      have hlt : s.sp < t.length := by
        have : (t.drop s.sp).length = t.length - s.sp := by simp
        rw [ed] at this
        simp at this
        omega
      simp [-List.lookup_eq_none_iff, x'.hp]
      refine spAt_ok eG ⟨p, t, s, h0, c, r, rfl, ⟨w', v', rs', x'⟩, ok, hl, ed, ?_⟩
      cases n with
      | zero => omega
      | succ n =>
        simp only [Rd.run, ed] at er
        cases eo : s.on t c with
        | bad e =>
          rw [eo] at er
          rw [← er] at hE
          exact hE
        | ok s2 =>
          rw [eo] at er
          have o2 := ok.on ed eo
          rintro h2 ⟨w2, v2, rs2, x2⟩
          refine hN _ _ ⟨s2, n, rfl, ⟨w2, v2, rs2, x2⟩, o2.1, by omega, er⟩ ?_
          rw [x2.spot, x'.spot]
          have := o2.1.s
          omega
omit hcs in
@[simp] theorem pt0 {x : D} : putFs "text" x [] = [(("text" : Str), x)] := rfl
omit hcs in
@[simp] theorem pt1 {x y : D} : putFs "spot" y [(("text" : Str), x)] = [(("text" : Str), x), ("spot", y)] := by rfl
omit hcs in
@[simp] theorem pt2 {x y z : D} : putFs "words" z [(("text" : Str), x), ("spot", y)] = [(("text" : Str), x), ("spot", y), ("words", z)] := by rfl
omit hcs in
@[simp] theorem pt3 {x y z u : D} : putFs "inner" u [(("text" : Str), x), ("spot", y), ("words", z)] = [(("text" : Str), x), ("spot", y), ("words", z), ("inner", u)] := by rfl
omit hcs in
@[simp] theorem pt4 {x y z u b : D} : putFs "is_bare" b [(("text" : Str), x), ("spot", y), ("words", z), ("inner", u)] = rF x y z u b := by rfl
theorem b_init (ds h xq Q) (q : spInit ds h xq Q) : body sps (E_init cs) 2 ds h xq Q := by
  obtain ⟨p, t, h0, rfl, hp, n0, e0, hQ⟩ := q
  simp [body, E_init, startD, hp, hcs]
  intro h1 hp1 e1
  simp [hp1, hcs]
  intro h2 hp2 e2
  intro w h3 nw hw e3
  have hp3 := e3 _ _ hp2
  simp [hp3, hcs]
  intro h4 hp4 e4
  intro a h5 na ha e5
  have hp5 := e5 _ _ hp4
  refine ⟨by decide, ?_⟩
  intro v h6 nv hv e6
  have hp6 := e6 _ _ hp5
  simp [hp6, hcs]
  intro h7 hp7 e7
  simp [hp7, hcs]
  intro h8 hp8 e8
  have wp : w ≠ p := fun z => by rw [z, hp2] at nw; cases nw
  have hw4 := e4 _ _ wp hw
  have ap : a ≠ p := fun z => by rw [z, hp4] at na; cases na
  have aw : a ≠ w := fun z => by rw [z, hw4] at na; cases na
  have hw5 := e5 _ _ hw4
  have vp : v ≠ p := fun z => by rw [z, hp5] at nv; cases nv
  have vw : v ≠ w := fun z => by rw [z, hw5] at nv; cases nv
  have va : v ≠ a := fun z => by rw [z, ha] at nv; cases nv
  have f1 : Ext h0 h1 := fun b u z => e1 b u (fun y => by rw [y, n0] at z; cases z) (e0 b u z)
  have f2 : Ext h0 h2 := fun b u z => e2 b u (fun y => by rw [y, n0] at z; cases z) (f1 b u z)
  have f4 : Ext h0 h4 := fun b u z => e4 b u (fun y => by rw [y, n0] at z; cases z) (e3 b u (f2 b u z))
  have f7 : Ext h0 h7 := fun b u z => e7 b u (fun y => by rw [y, n0] at z; cases z) (e6 b u (e5 b u (f4 b u z)))
  have f8 : Ext h0 h8 := fun b u z => e8 b u (fun y => by rw [y, n0] at z; cases z) (f7 b u z)
  have nn : ∀ {b : Addr} {h' : PH}, Ext h0 h' → h' b = none → h0 b = none := fun {b h'} f n => by
    cases z : h0 b with
    | none => rfl
    | some u => rw [f b u z] at n; cases n
  refine hQ h8 ⟨w, v, [a], f8, fun b m => ?_, ?_, hp8, ?_, ?_, rfl, fun i b ks q1 q2 => ?_⟩
  · simp only [List.mem_cons, List.not_mem_nil, or_false] at m
    rcases m with rfl | rfl | rfl | rfl
    · exact n0
    · exact nn f2 nw
    · exact nn (fun b u z => e5 b u (f4 b u z)) nv
    · exact nn f4 na
  · simp [wp.symm, vp.symm, ap.symm, vw.symm, aw.symm, va]
  · exact e8 _ _ wp (e7 _ _ wp (e6 _ _ hw5))
  · exact e8 _ _ vp (e7 _ _ vp hv)
  · cases i with
    | succ i => simp at q1
    | zero =>
      simp [Rd.zero] at q1 q2
      subst q1 q2
      exact e8 _ _ ap (e7 _ _ ap (e6 _ _ ha))
/-- read_tree -/
def E_readT (iW iM iN : Nat) : S := .cons (.ife (.lnot (.isi (.var 0) .str)) (.cons (.raise "BadText" ["at"] (.cons (.int 0) .nil)) .nil) .nil) (.cons (.set (.nm 1) (.fgt (.meth iW "Reader" "whole" (.make iM "Reader" (.cons (.var 0) .nil)) .nil))) (.cons (.expr (.call iN (.cons (.var 1) .nil))) (.cons (.ret (.var 1)) .nil)))
def isStrD : D → Option (List Nat)
  | .str t => some t
  | _ => none
def spReadT : DSp := fun ds h xq Q => ∃ d : D, ds = [d] ∧ isData d h = true ∧ match isStrD d with
  | some t => t.length ≤ 100000 ∧ (match Rd.all t with
    | .ok u => (isT (enc u) = true → Q (enc u) h) ∧ (isT (enc u) = false → xq ⟨"BadTree", []⟩ h)
    | .bad e => xq (badT e) h)
  | none => xq (badT 0) h
omit hcs in
theorem isi_str {h : PH} {d : D} {Q : Bool → Prop} (e : isData d h = true) : isiD .str d h Q = Q (isStrD d).isSome := by
  cases d with
  | ref a =>
    have e : (match h a with
      | some (.lst _) => true
      | some (.dct _) => true
      | _ => false) = true := e
    cases ea : h a with
    | none => rw [ea] at e; cases e
    | some o =>
      rw [ea] at e
      cases o with
      | lst ds => simp [isiD, ea, isStrD]
      | dct ds => simp [isiD, ea, isStrD]
      | _ => cases e
  | _ => rfl
theorem all_wok {t : List Nat} {u : T} (e : Rd.all t = .ok u) : wok u = true := by
  unfold Rd.all at e
  cases eb : Rd.zero.begin t with
  | bad e2 => rw [eb] at e; cases e
  | ok s1 =>
    rw [eb] at e
    dsimp only at e
    have run_ok : ∀ (n : Nat) (s s2 : Rd), s.Ok t → s.run t n = .ok s2 → s2.Ok t := fun n => by
      induction n with
      | zero => intro s s2 o e; cases e; exact o
      | succ n ih =>
        intro s s2 o e
        simp only [Rd.run] at e
        split at e
        · cases e; exact o
        · rename_i c r ed
          cases eo : s.on t c with
          | bad e2 => rw [eo] at e; cases e
          | ok s3 =>
            rw [eo] at e
            exact ih s3 s2 (o.on ed eo).1 e
    cases er : s1.run t t.length with
    | bad e2 => rw [er] at e; cases e
    | ok s2 =>
      rw [er] at e
      dsimp only at e
      have o2 := run_ok _ _ _ (Rd.Ok.zero.begin eb).1 er
      split at e
      · rename_i w ks r ew ei
        cases e
        have h1 := o2.n w (by rw [ew]; simp)
        have h2 := o2.k ks (by rw [ei]; simp)
        simp [wok, h1, h2]
      · cases e
theorem b_readT (iW iM iN : Nat) (eW : sps[iW]? = some spRwhole) (eM : sps[iM]? = some spInit) (eN : sps[iN]? = some spNeed) (ds h xq Q) (q : spReadT ds h xq Q) : body sps (E_readT iW iM iN) 2 ds h xq Q := by
  obtain ⟨d, rfl, idd, hE⟩ := q
  simp [-List.lookup_eq_none_iff, body, E_readT, startD, idd, isi_str idd]
  cases ed : isStrD d with
  | none =>
    rw [ed] at hE
    simp
    unfold badT at hE
    simpa using hE
  | some t =>
    rw [ed] at hE
    have : d = .str t := by
      cases d <;> simp [isStrD] at ed
      rw [ed]
    subst this
    obtain ⟨hl, hE⟩ := hE
    simp [-List.lookup_eq_none_iff]
    intro p h1 np hp e1
    refine spAt_ok eM ⟨p, t, h, rfl, hp, np, e1, fun h2 x2 => ⟨rfl, ?_⟩⟩
    obtain ⟨w, v, rs, x2'⟩ := x2
    have x2 : RdH t .zero h h2 p := ⟨w, v, rs, x2'⟩
    simp [-List.lookup_eq_none_iff, x2'.hp]
    refine spAt_ok eW ⟨p, t, h, rfl, x2, hl, ?_⟩
    cases ea : Rd.all t with
    | bad e =>
      rw [ea] at hE
      intro h3 e3
      exact ⟨h, e3, hE⟩
    | ok u =>
      rw [ea] at hE
      have wu := all_wok hcs ea
      intro h3 e3
      refine ⟨h, e3, ?_⟩
      refine spAt_ok eN ⟨enc u, rfl, dat_enc u wu, fun hT => ?_, fun hT => hE.2 hT⟩
      exact hE.1 hT
end
end Lit
/-! Trees as texts, and back. -/
namespace Lit
open PySem PySem.Spec PyProof.Rows L2
mutual
/-- a tree's text -/
def txt : T → List Nat
  | .node w ks => w ++ txk ks
/-- the text of the parts within -/
def txk : List T → List Nat
  | [] => []
  | k :: ks => 40 :: (txt k ++ txm ks)
/-- the further parts, and the end -/
def txm : List T → List Nat
  | [] => [41]
  | k :: ks => 44 :: (txt k ++ txm ks)
end
theorem txt_eq (w : List Nat) (ks : List T) : txt (.node w ks) = w ++ txk ks := by simp only [txt]
mutual
theorem txt_len : ∀ t : T, wok t = true → (txt t).length + 2 ≤ 11 * size t
  | .node w ks, q => by
    simp only [wok, Bool.and_eq_true_iff] at q
    have h1 := isN_len q.1
    have h2 := txk_len ks q.2
    simp only [txt, size, List.length_append]
    omega
theorem txk_len : ∀ ks : List T, woks ks = true → (txk ks).length ≤ 11 * sizes ks + 1
  | [], _ => by simp [txk]
  | k :: ks, q => by
    simp only [woks, Bool.and_eq_true_iff] at q
    have h1 := txt_len k q.1
    have h2 := txm_len ks q.2
    simp only [txk, sizes, List.length_cons, List.length_append]
    omega
theorem txm_len : ∀ ks : List T, woks ks = true → (txm ks).length ≤ 11 * sizes ks + 1
  | [], _ => by simp [txm]
  | k :: ks, q => by
    simp only [woks, Bool.and_eq_true_iff] at q
    have h1 := txt_len k q.1
    have h2 := txm_len ks q.2
    simp only [txm, sizes, List.length_cons, List.length_append]
    omega
end
theorem txm_join : ∀ (ks : List T) (k : T), txt k ++ txm ks = TL.joinL [44] ((k :: ks).map txt) ++ [41]
  | [], k => by simp [txm, TL.joinL]
  | j :: ks, k => by
    have := txm_join ks j
    simp only [txm, List.map_cons, TL.joinL] at this ⊢
    rw [this]
    simp
theorem txk_join (k : T) (ks : List T) : txk (k :: ks) = 40 :: (TL.joinL [44] ((k :: ks).map txt) ++ [41]) := by
  rw [← txm_join]
  simp only [txk]
mutual
theorem txt_low : ∀ t : T, wok t = true → ∀ c ∈ txt t, c < 128
  | .node w ks, q => by
    simp only [wok, Bool.and_eq_true_iff] at q
    have h1 := isN_len q.1
    simp only [txt, List.mem_append]
    rintro c (m | m)
    · exact lets_lt c (h1.2.2 c m)
    · exact txk_low ks q.2 c m
theorem txk_low : ∀ ks : List T, woks ks = true → ∀ c ∈ txk ks, c < 128
  | [], _ => by simp [txk]
  | k :: ks, q => by
    simp only [woks, Bool.and_eq_true_iff] at q
    simp only [txk, List.mem_cons, List.mem_append]
    rintro c (rfl | m | m)
    · decide
    · exact txt_low k q.1 c m
    · exact txm_low ks q.2 c m
theorem txm_low : ∀ ks : List T, woks ks = true → ∀ c ∈ txm ks, c < 128
  | [], _ => by simp [txm]
  | k :: ks, q => by
    simp only [woks, Bool.and_eq_true_iff] at q
    simp only [txm, List.mem_cons, List.mem_append]
    rintro c (rfl | m | m)
    · decide
    · exact txt_low k q.1 c m
    · exact txm_low ks q.2 c m
end
/-! ### a text is read back -/
def noLet : List Nat → Bool
  | [] => true
  | c :: _ => decide (c ∉ lets)
theorem lead_word : ∀ (n : Nat) (w r : List Nat), w.length ≤ n → (∀ c ∈ w, c ∈ lets) → noLet r = true → lead n (w ++ r) = w.length
  | 0, w, r, h, _, _ => by
    have : w = [] := List.eq_nil_of_length_eq_zero (by omega)
    subst this
    simp [lead]
  | n + 1, [], r, _, _, q => by
    cases r with
    | nil => rfl
    | cons c r =>
      have : c ∉ lets := of_decide_eq_true q
      simp [lead, this]
  | n + 1, c :: w, r, h, hw, q => by
    have hc := hw c (by simp)
    simp only [List.cons_append, lead, hc, if_true, List.length_cons]
    rw [lead_word n w r (by simpa using h) (fun d m => hw d (by simp [m])) q]
/-- the machine comes from the one state to the other -/
def Rch (t : List Nat) (s s2 : Rd) : Prop := ∃ k, k + s.sp ≤ s2.sp ∧ ∀ n, s.run t (n + k) = s2.run t n
theorem Rch.refl {t : List Nat} {s : Rd} : Rch t s s := ⟨0, by omega, fun n => rfl⟩
theorem Rch.trans {t : List Nat} {s s2 s3 : Rd} (a : Rch t s s2) (b : Rch t s2 s3) : Rch t s s3 := by
  obtain ⟨k, h1, h2⟩ := a
  obtain ⟨j, g1, g2⟩ := b
  refine ⟨j + k, by omega, fun n => ?_⟩
  rw [← Nat.add_assoc, h2, g2]
theorem Rch.one {t : List Nat} {s s2 : Rd} {c : Nat} {r : List Nat} (e : t.drop s.sp = c :: r) (o : s.on t c = .ok s2) (h : s.sp < s2.sp) : Rch t s s2 :=
  ⟨1, by omega, fun n => by simp only [Rd.run, e, o]⟩
theorem begin_word {t : List Nat} {s : Rd} {w r : List Nat} (hw : isN (.str w) = true) (e : t.drop s.sp = w ++ r) (hr : noLet r = true) : s.begin t = .ok ⟨s.sp + w.length, w :: s.ws, [] :: s.inn, true⟩ := by
  have h := isN_len hw
  have l := lead_word 8 w r h.2.1 h.2.2 hr
  unfold Rd.begin
  rw [e, l, if_neg (by omega), List.take_left]
theorem no40 : (40 : Nat) ∉ lets := by decide
theorem no41 : (41 : Nat) ∉ lets := by decide
theorem no44 : (44 : Nat) ∉ lets := by decide
theorem noLet_txk : ∀ (ks : List T) (r : List Nat), noLet r = true → noLet (txk ks ++ r) = true
  | [], r, h => by simpa [txk] using h
  | k :: ks, r, h => by simp only [txk, List.cons_append, noLet]; exact decide_eq_true no40
theorem noLet_txm : ∀ (ks : List T) (r : List Nat), noLet (txm ks ++ r) = true
  | [], r => by simp only [txm, List.cons_append, noLet]; exact decide_eq_true no41
  | k :: ks, r => by simp only [txm, List.cons_append, noLet]; exact decide_eq_true no44
theorem drop_app {t a b : List Nat} {n : Nat} (e : t.drop n = a ++ b) : t.drop (n + a.length) = b := by
  rw [← List.drop_drop, e, List.drop_left]
mutual
/-- within a part that is begun -/
theorem rch_part : ∀ (ks : List T) (t w : List Nat) (ws : List (List Nat)) (inn : List (List T)) (sp : Nat) (r : List Nat), woks ks = true → t.drop sp = txk ks ++ r → noLet r = true →
    ∃ b, Rch t ⟨sp, w :: ws, [] :: inn, true⟩ ⟨sp + (txk ks).length, w :: ws, ks :: inn, b⟩
  | [], t, w, ws, inn, sp, r, _, _, _ => ⟨true, by simp only [txk, List.length_nil, Nat.add_zero]; exact .refl⟩
  | .node v js :: ks, t, w, ws, inn, sp, r, q, e, hr => by
    simp only [woks, wok, Bool.and_eq_true_iff] at q
    have e0 : t.drop sp = [40] ++ (v ++ (txk js ++ (txm ks ++ r))) := by rw [e]; simp [txk, txt]
    have e1 := drop_app e0
    simp only [List.length_cons, List.length_nil, Nat.zero_add] at e1
    have bw := begin_word (s := ⟨sp + 1, w :: ws, [] :: inn, true⟩) q.1.1 e1 (noLet_txk js _ (noLet_txm ks r))
    have on : Rd.on t 40 ⟨sp, w :: ws, [] :: inn, true⟩ = .ok ⟨sp + 1 + v.length, v :: w :: ws, [] :: [] :: inn, true⟩ := by
      unfold Rd.on Rd.next
      rw [if_pos (by simp [Rd.may]), if_neg (by decide), if_pos rfl]
      exact bw
    have s1 : Rch t ⟨sp, w :: ws, [] :: inn, true⟩ ⟨sp + 1 + v.length, v :: w :: ws, [] :: [] :: inn, true⟩ := .one (c := 40) (by simpa using e0) on (by simp only []; omega)
    obtain ⟨b, s2⟩ := rch_more js ks t v w ws [] inn (sp + 1 + v.length) r q.1.2 q.2 (drop_app e1) hr
    refine ⟨false, s1.trans ?_⟩
    have el : sp + (txk (.node v js :: ks)).length = sp + 1 + v.length + (txk js).length + (txm ks).length := by simp [txk, txt]; omega
    rw [el]
    exact s2
termination_by ks => (sizes ks, 0)
decreasing_by all_goals (simp only [sizes, size, Prod.lex_def]; omega)
/-- a part that is begun, and those behind it -/
theorem rch_more : ∀ (js ks : List T) (t v w : List Nat) (ws : List (List Nat)) (us : List T) (inn : List (List T)) (sp : Nat) (r : List Nat), woks js = true → woks ks = true → t.drop sp = txk js ++ (txm ks ++ r) → noLet r = true →
    ∃ _ : True, Rch t ⟨sp, v :: w :: ws, [] :: us :: inn, true⟩ ⟨sp + (txk js).length + (txm ks).length, w :: ws, (us ++ .node v js :: ks) :: inn, false⟩
  | js, [], t, v, w, ws, us, inn, sp, r, qj, _, e, hr => by
    obtain ⟨b, s1⟩ := rch_part js t v (w :: ws) (us :: inn) sp _ qj e (noLet_txm [] r)
    have e1 := drop_app e
    have on : Rd.on t 41 ⟨sp + (txk js).length, v :: w :: ws, js :: us :: inn, b⟩ = .ok ⟨sp + (txk js).length + 1, w :: ws, (us ++ [.node v js]) :: inn, false⟩ := by
      unfold Rd.on Rd.next
      rw [if_pos (by simp [Rd.may]), if_pos rfl, if_neg (by decide)]
      rfl
    refine ⟨trivial, s1.trans (.one (c := 41) (r := r) (by simpa [txm] using e1) ?_ ?_)⟩
    · simpa [txm] using on
    · simp [txm]
  | js, .node x ys :: ks, t, v, w, ws, us, inn, sp, r, qj, q, e, hr => by
    simp only [woks, wok, Bool.and_eq_true_iff] at q
    obtain ⟨b, s1⟩ := rch_part js t v (w :: ws) (us :: inn) sp _ qj e (noLet_txm _ r)
    have e1 : t.drop (sp + (txk js).length) = [44] ++ (x ++ (txk ys ++ (txm ks ++ r))) := by rw [drop_app e]; simp [txm, txt]
    have e2 := drop_app e1
    simp only [List.length_cons, List.length_nil, Nat.zero_add] at e2
    have bw := begin_word (s := ⟨sp + (txk js).length + 1, w :: ws, (us ++ [.node v js]) :: inn, b⟩) q.1.1 e2 (noLet_txk ys _ (noLet_txm ks r))
    have on : Rd.on t 44 ⟨sp + (txk js).length, v :: w :: ws, js :: us :: inn, b⟩ = .ok ⟨sp + (txk js).length + 1 + x.length, x :: w :: ws, [] :: (us ++ [.node v js]) :: inn, true⟩ := by
      unfold Rd.on Rd.next
      rw [if_pos (by simp [Rd.may]), if_neg (by decide), if_neg (by decide)]
      exact bw
    have s2 : Rch t ⟨sp + (txk js).length, v :: w :: ws, js :: us :: inn, b⟩ ⟨sp + (txk js).length + 1 + x.length, x :: w :: ws, [] :: (us ++ [.node v js]) :: inn, true⟩ := .one (c := 44) (by simpa using e1) on (by simp only []; omega)
    obtain ⟨_, s3⟩ := rch_more ys ks t x w ws (us ++ [.node v js]) inn _ r q.1.2 q.2 (drop_app e2) hr
    refine ⟨trivial, s1.trans (s2.trans ?_)⟩
    have el : sp + (txk js).length + (txm (.node x ys :: ks)).length = sp + (txk js).length + 1 + x.length + (txk ys).length + (txm ks).length := by simp [txm, txt]; omega
    rw [el]
    simpa using s3
termination_by js ks => (sizes js + sizes ks, 1)
decreasing_by all_goals (simp only [sizes, size, Prod.lex_def]; omega)
end
theorem all_txt (t : T) (q : wok t = true) : Rd.all (txt t) = .ok t := by
  cases t with
  | node w ks =>
    simp only [wok, Bool.and_eq_true_iff] at q
    have e : (txt (.node w ks)).drop 0 = w ++ (txk ks ++ []) := by simp [txt]
    have bw := begin_word (s := .zero) q.1 e (noLet_txk ks [] rfl)
    unfold Rd.all
    rw [bw]
    dsimp only [Rd.zero]
    obtain ⟨b, k, h1, h2⟩ := rch_part ks (txt (.node w ks)) w [] [[]] (0 + w.length) [] q.2 (drop_app e) rfl
    simp only [] at h1
    have hl : (txt (.node w ks)).length = w.length + (txk ks).length := by simp [txt]
    have ef : (txt (.node w ks)).length = ((txt (.node w ks)).length - k) + k := by omega
    rw [ef, h2]
    have ed : (txt (.node w ks)).drop (0 + w.length + (txk ks).length) = [] := List.drop_eq_nil_of_le (by omega)
    cases (txt (.node w ks)).length - k with
    | zero => rfl
    | succ n => simp only [Rd.run, ed]
/-! ### part_text, tree_text -/
def E_partx (iP : Nat) : S := .cons (.ife (.cmp .eq (.ix (.var 0) (.int 1)) (.tup .nil)) (.cons (.ret (.ix (.var 0) (.int 0))) .nil) .nil) (.cons (.ret (.op true .add (.op true .add (.op true .add (.ix (.var 0) (.int 0)) (.str [40])) (.mth .join (.str [44]) (.cons (.comp true (.itL (.ix (.var 0) (.int 1))) (.nm 1) [1] .nil (.call iP (.cons (.var 1) .nil))) .nil))) (.str [41]))) .nil)
def spPartx (d : Nat) : DSp := fun ds h _ Q => ∃ t : T, ds = [enc t] ∧ dpt t ≤ d ∧ dpt t ≤ 8 ∧ wok t = true ∧ size t ≤ 1000 ∧ Q (.str (txt t)) h
theorem gd_kids {ks : List T} (w : woks ks = true) (d : dpts ks ≤ 8) : Gd (.tup (encs ks)) := ⟨by simp only [pur, purs_encs ks w], by simp only [nob, nobs_encs ks], by have := deps_encs ks; simp only [dep]; omega⟩
theorem gd_nil : Gd (.tup []) := ⟨rfl, rfl, by simp [dep, deps]⟩
theorem sum_txt : ∀ ks : List T, woks ks = true → ((ks.map txt).map List.length).sum ≤ 11 * sizes ks
  | [], _ => by simp
  | k :: ks, q => by
    simp only [woks, Bool.and_eq_true_iff] at q
    have h1 := txt_len k q.1
    have h2 := sum_txt ks q.2
    simp only [List.map_cons, List.sum_cons, sizes] at h2 ⊢
    omega
theorem joinL_len : ∀ ys : List (List Nat), (TL.joinL [44] ys).length ≤ (ys.map List.length).sum + ys.length
  | [] => by simp [TL.joinL]
  | [x] => by simp [TL.joinL]
  | x :: y :: r => by
    have := joinL_len (y :: r)
    simp only [TL.joinL, List.length_append, List.length_cons, List.length_nil, List.map_cons, List.sum_cons] at this ⊢
    omega
theorem b_partx (sps : List DSp) (iP d : Nat) (e : sps[iP]? = some (spPartx d)) (ds h xq Q) (q : spPartx (d + 1) ds h xq Q) : body sps (E_partx iP) 2 ds h xq Q := by
  obtain ⟨t, rfl, hd, hd8, hw, hz, hQ⟩ := q
  cases t with
  | node w ks =>
    simp only [dpt, size] at hd hd8 hz
    simp only [wok, Bool.and_eq_true_iff] at hw
    have a0 : atI [D.str w, .tup (encs ks)] 0 = some (.str w) := by simp [atI, ixN]
    have a1 : atI [D.str w, .tup (encs ks)] 1 = some (.tup (encs ks)) := by simp [atI, ixN]
    have g := gd_kids hw.2 (by omega)
    simp [body, E_partx, startD, enc, ixD, a1, cmp_eqG g gd_nil]
    cases ks with
    | nil =>
      simp [encs, a0]
      have a0' : atI [D.str w, .tup []] 0 = some (.str w) := by simp [atI, ixN]
      simp [a0']
      simpa [txt, txk] using hQ
    | cons k ks =>
      have ne : ¬ (encs (k :: ks) = []) := by simp [encs]
      have hl := isN_len hw.1
      have sl := len_sizes (k :: ks)
      have st := sum_txt (k :: ks) hw.2
      simp [ne, a0, tyB, isStr]
      refine ⟨by rw [sz]; omega, ?_⟩
      rw [encs_map]
      refine compLoop_pure enc (fun k => some (.str (txt k))) trivial (k :: ks) [] (fun j hj => ⟨_, asg_nm, fun N hN => ?_⟩) (by simp only [List.length_nil, sz]; omega) ?_
      · have mk := mem_sizes hj
        simp [wipeR]
        refine spAt_ok e ⟨j, rfl, by omega, by omega, ?_, by omega, hN⟩
        clear hN
        have : ∀ (l : List T), woks l = true → ∀ j ∈ l, wok j = true := fun l => by
          induction l with
          | nil => intro _ j m; cases m
          | cons a l ih =>
            intro q j m
            simp only [woks, Bool.and_eq_true_iff] at q
            rcases List.mem_cons.mp m with rfl | m
            · exact q.1
            · exact ih q.2 j m
        exact this _ hw.2 j hj
      · rw [fm_all]
        have im : ((k :: ks).map fun k => D.str (txt k)) = ((k :: ks).map txt).map D.str := by rw [List.map_map]; rfl
        have jl := joinL_len ((k :: ks).map txt)
        have st2 : (((k :: ks).map txt).map (fun x => x.length)).sum ≤ 11 * sizes (k :: ks) := st
        rw [List.length_map] at jl
        simp only [List.nil_append, newL_t, im, join_mthR, bin_addS]
        refine ⟨?_, ?_, ?_, ?_⟩
        · rw [List.length_map]
          simp only [List.length_cons, List.length_nil] at sl jl ⊢
          omega
        · simp only [List.length_append, List.length_cons, List.length_nil, sz] at sl jl ⊢
          omega
        · simp only [List.length_append, List.length_cons, List.length_nil, sz] at sl jl ⊢
          omega
        · have : w ++ [40] ++ TL.joinL [44] ((k :: ks).map txt) ++ [41] = txt (.node w (k :: ks)) := by rw [txt_eq, txk_join]; simp
          rw [this]
          exact hQ
def E_ttext (iN iP : Nat) : S := .cons (.expr (.call iN (.cons (.var 0) .nil))) (.cons (.ret (.call iP (.cons (.var 0) .nil))) .nil)
def spTtext : DSp := fun ds h xq Q => ∃ x : D, ds = [x] ∧ dat h x ∧ (∀ t, x = enc t → GT t → Q (.str (txt t)) h) ∧ (isT x = false → xq ⟨"BadTree", []⟩ h)
theorem b_ttext (sps : List DSp) (iN iP d : Nat) (hd : 8 ≤ d) (eN : sps[iN]? = some spNeed) (eP : sps[iP]? = some (spPartx d)) (ds h xq Q) (q : spTtext ds h xq Q) : body sps (E_ttext iN iP) 1 ds h xq Q := by
  obtain ⟨x, rfl, dx, q1, q2⟩ := q
  simp [body, E_ttext, startD]
  refine spAt_ok eN ⟨x, rfl, dx, fun hT => ?_, q2⟩
  obtain ⟨t, rfl, g⟩ := isT_dec hT
  exact spAt_ok eP ⟨t, rfl, by have := g.d; omega, g.d, g.w, by have := g.s; omega, q1 t rfl g⟩
end Lit
/-! What the laws on trees share: all places, the kinds of a refusal, going to places. -/
namespace Lit
open PySem PySem.Spec PyProof.Rows L2
/-! ### enumerate -/
def enumD : Nat → List D → List D
  | _, [] => []
  | i, d :: ds => .tup [.int (i : Nat), d] :: enumD (i + 1) ds
theorem pairs_enum : ∀ (ds : List D) (i : Nat), pairsD ((List.range' i ds.length).map fun k : Nat => D.int (k : Int)) ds = enumD i ds
  | [], _ => by simp [enumD, pairsD]
  | d :: ds, i => by
    simp only [List.length_cons, List.range'_succ, List.map_cons, pairsD, enumD]
    rw [pairs_enum ds (i + 1)]
theorem pairs_enum0 (ds : List D) : pairsD (natsD ds.length) ds = enumD 0 ds := by
  rw [← pairs_enum ds 0]
  simp only [natsD, List.range_eq_range']
/-! ### all places with their parts -/
mutual
def alls : T → List Int → List (List Int × T)
  | .node w ks, pl => (pl, .node w ks) :: allsK ks pl 0
def allsK : List T → List Int → Nat → List (List Int × T)
  | [], _, _ => []
  | k :: ks, pl, i => alls k (pl ++ [(i : Int)]) ++ allsK ks pl (i + 1)
end
mutual
def plc : T → List (List Int)
  | .node _ ks => [] :: plcK ks 0
def plcK : List T → Nat → List (List Int)
  | [], _ => []
  | k :: ks, i => (plc k).map ((i : Int) :: ·) ++ plcK ks (i + 1)
end
mutual
theorem alls_plc : ∀ (t : T) (pl : List Int), (alls t pl).map (·.1) = (plc t).map (pl ++ ·)
  | .node w ks, pl => by simp [alls, plc, allsK_plc ks pl 0]
theorem allsK_plc : ∀ (ks : List T) (pl : List Int) (i : Nat), (allsK ks pl i).map (·.1) = (plcK ks i).map (pl ++ ·)
  | [], _, _ => rfl
  | k :: ks, pl, i => by
    simp only [allsK, plcK, List.map_append, alls_plc k, allsK_plc ks pl (i + 1), List.map_map]
    congr 1
    refine List.map_congr_left fun x _ => ?_
    simp
end
mutual
theorem alls_len : ∀ (t : T) (pl : List Int), (alls t pl).length = size t
  | .node w ks, pl => by simp only [alls, List.length_cons, allsK_len ks pl 0, size]; omega
theorem allsK_len : ∀ (ks : List T) (pl : List Int) (i : Nat), (allsK ks pl i).length = sizes ks
  | [], _, _ => rfl
  | k :: ks, pl, i => by simp only [allsK, List.length_append, alls_len k, allsK_len ks pl (i + 1), sizes]
end
mutual
theorem plc_len : ∀ t : T, (plc t).length = size t
  | .node w ks => by simp only [plc, List.length_cons, plcK_len ks 0, size]; omega
theorem plcK_len : ∀ (ks : List T) (i : Nat), (plcK ks i).length = sizes ks
  | [], _ => rfl
  | k :: ks, i => by simp only [plcK, List.length_append, List.length_map, plc_len k, plcK_len ks (i + 1), sizes]
end
mutual
theorem plc_short : ∀ (t : T), ∀ p ∈ plc t, p.length < dpt t
  | .node w ks, p, hp => by
    simp only [plc, List.mem_cons] at hp
    simp only [dpt]
    rcases hp with rfl | hp
    · simp; omega
    · have := plcK_short ks 0 p hp
      omega
theorem plcK_short : ∀ (ks : List T) (i : Nat), ∀ p ∈ plcK ks i, p.length ≤ dpts ks
  | k :: ks, i, p, hp => by
    simp only [plcK, List.mem_append, List.mem_map] at hp
    simp only [dpts]
    rcases hp with ⟨x, hx, rfl⟩ | hp
    · have := plc_short k x hx
      simp; omega
    · have := plcK_short ks (i + 1) p hp
      omega
end
def prD (p : List Int × T) : D := .tup [itup p.1, enc p.2]
def E_all (iA : Nat) : S := .cons (.set (.nm 2) (.lst true (.cons (.tup (.cons (.var 1) (.cons (.var 0) .nil))) .nil))) (.cons (.for_ (.itEL (.ix (.var 0) (.int 1))) (.tup (.cons (.nm 3) (.cons (.nm 4) .nil))) (.cons (.set (.nm 2) (.op true .add (.var 2) (.call iA (.cons (.var 4) (.cons (.op true .add (.var 1) (.tup (.cons (.var 3) .nil))) .nil))))) .nil)) (.cons (.ret (.var 2)) .nil))
def spAll (d : Nat) : DSp := fun ds h _ Q => ∃ (t : T) (pl : List Int), ds = [enc t, itup pl] ∧ dpt t ≤ d ∧ size t ≤ 60 ∧ pl.length + d ≤ 100 ∧ Q (.rol ((alls t pl).map prD)) h
theorem b_all (sps : List DSp) (iA d : Nat) (e : sps[iA]? = some (spAll d)) (ds h xq Q) (q : spAll (d + 1) ds h xq Q) : body sps (E_all iA) 5 ds h xq Q := by
  obtain ⟨t, pl, rfl, hd, hs, hl, hQ⟩ := q
  cases t with
  | node w ks =>
    have a1 : atI [D.str w, .tup (encs ks)] 1 = some (.tup (encs ks)) := by simp [atI, ixN]
    simp only [dpt, size] at hd hs
    simp [body, E_all, startD, enc, ixD, a1]
    refine ⟨by decide, by decide, ?_⟩
    rw [pairs_enum0]
    refine forLoop_inv (fun l ρ h' => h' = h ∧ ∃ (done : List (List Int × T)) (ks' : List T) (i : Nat) (a3 a4 : Option D), l = enumD i (encs ks') ∧ ρ = [some (enc (.node w ks)), some (itup pl), some (.rol (done.map prD)), a3, a4] ∧ dpts ks' ≤ d ∧ done.length + sizes ks' ≤ 60 ∧
      Q (.rol ((done ++ allsK ks' pl i).map prD)) h) (fun _ _ _ _ => trivial) ?_ ?_ _ _ _ ⟨rfl, [(pl, .node w ks)], ks, 0, none, none, rfl, by simp [enc, prD], by omega, by simp; omega, by simpa [alls] using hQ⟩
    · rintro v l ρ h' ⟨rfl, done, ks', i, a3, a4, el, rfl, hd', hs', hq⟩
      cases ks' with
      | nil => simp [encs, enumD] at el
      | cons k ks' =>
        simp only [encs, enumD, List.cons.injEq] at el
        obtain ⟨rfl, rfl⟩ := el
        simp only [dpts, sizes] at hd' hs'
        refine ⟨[some (enc (.node w ks)), some (itup pl), some (.rol (done.map prD)), some (.int (i : Nat)), some (enc k)], by simp, fun N hN => ?_⟩
        simp
        refine ⟨by rw [sz]; omega, by rw [sz]; omega, spAt_ok e ⟨k, pl ++ [(i : Int)], by simp [itup], by omega, by omega, by simp; omega, ?_⟩⟩
        simp
        rw [alls_len]
        refine ⟨by rw [sz]; omega, hN _ _ ⟨rfl, done ++ alls k (pl ++ [(i : Int)]), ks', i + 1, some (.int (i : Nat)), some (enc k), rfl, by simp, by omega, ?_, ?_⟩⟩
        · simp only [List.length_append, alls_len]; omega
        · simpa [allsK] using hq
    · rintro ρ h' ⟨rfl, done, ks', i, a3, a4, el, rfl, hd', hs', hq⟩
      cases ks' with
      | cons k ks' => simp only [encs, enumD] at el; cases el
      | nil => simpa [allsK] using hq
theorem tyB_extend {p : Addr} {ds : List D} {h : PH} (e : h p = some (.lst ds)) : tyB .extend (.ref p) h = true := by simp only [tyB, rdM, e, Option.isSome_some]
/-! ### the kinds of a refusal -/
def kn : List (List Nat × Str) := [([116, 101, 120, 116], "BadText"), ([114, 111, 119], "BadRow"), ([116, 114, 101, 101], "BadTree"), ([99, 104, 97, 110, 103, 101], "BadChange"), ([112, 108, 97, 99, 101], "OutOfPlace"), ([109, 97, 107, 101], "NoMake"),
  ([103, 114, 101, 97, 116], "TooGreat"), ([112, 97, 112, 101, 114], "BadPaper"), ([114, 111, 119, 115], "BadRows"), ([102, 111, 114, 109], "BadForm"), ([109, 97, 107, 101, 115], "BadMakes"), ([98, 97, 115, 101], "NoBase")]
def kindsOf (c : Str) : List (List Nat) := (kn.filter fun p => subE c p.2).map (·.1)
def E_kinds (xs : List Str) : S := .cons (.set (.nm 1) (.lst false (.cons (.tup (.cons (.str [116, 101, 120, 116]) (.cons (.isx (.var 0) "BadText" xs) .nil))) (.cons (.tup (.cons (.str [114, 111, 119]) (.cons (.isx (.var 0) "BadRow" xs) .nil))) .nil)))) (.cons (.set (.nm 1) (.op false .add (.var 1) (.lst true (.cons (.tup (.cons (.str [116, 114, 101, 101]) (.cons (.isx (.var 0) "BadTree" xs) .nil))) (.cons (.tup (.cons (.str [99, 104, 97, 110, 103, 101]) (.cons (.isx (.var 0) "BadChange" xs) .nil))) .nil))))) (.cons (.set (.nm 1) (.op false .add (.var 1) (.lst true (.cons (.tup (.cons (.str [112, 108, 97, 99, 101]) (.cons (.isx (.var 0) "OutOfPlace" xs) .nil))) (.cons (.tup (.cons (.str [109, 97, 107, 101]) (.cons (.isx (.var 0) "NoMake" xs) .nil))) .nil))))) (.cons (.set (.nm 1) (.op false .add (.var 1) (.lst true (.cons (.tup (.cons (.str [103, 114, 101, 97, 116]) (.cons (.isx (.var 0) "TooGreat" xs) .nil))) (.cons (.tup (.cons (.str [112, 97, 112, 101, 114]) (.cons (.isx (.var 0) "BadPaper" xs) .nil))) .nil))))) (.cons (.set (.nm 1) (.op false .add (.var 1) (.lst true (.cons (.tup (.cons (.str [114, 111, 119, 115]) (.cons (.isx (.var 0) "BadRows" xs) .nil))) (.cons (.tup (.cons (.str [102, 111, 114, 109]) (.cons (.isx (.var 0) "BadForm" xs) .nil))) .nil))))) (.cons (.set (.nm 1) (.op false .add (.var 1) (.lst true (.cons (.tup (.cons (.str [109, 97, 107, 101, 115]) (.cons (.isx (.var 0) "BadMakes" xs) .nil))) (.cons (.tup (.cons (.str [98, 97, 115, 101]) (.cons (.isx (.var 0) "NoBase" xs) .nil))) .nil))))) (.cons (.expr (.mth .append (.var 1) (.cons (.tup (.cons (.str [111, 116, 104, 101, 114]) (.cons (.lor (.cons (.lnot (.isx (.var 0) "ValueError" xs)) (.cons (.lnot (.isx (.var 0) "MarkError" xs)) .nil))) .nil))) .nil))) (.cons (.ret (.fgt (.comp true (.itL (.var 1)) (.tup (.cons (.nm 2) (.cons (.nm 3) .nil))) [2, 3] (.cons (.var 3) .nil) (.var 2)))) .nil)))))))
def spKinds (xs : List Str) : DSp := fun ds h _ Q => ∃ (p : Addr) (c : Str) (fs : List (Str × D)), ds = [.ref p] ∧ h p = some (.exc c fs) ∧ c ∈ xs ∧ Q (.rol ((kindsOf c).map D.str)) h
theorem bin_addLR {fz : Bool} {h : PH} {q : Addr} {as bs : List D} {Q : D → PH → Prop} (e : h q = some (.lst as)) : binD fz .add (.ref q) (.rol bs) h Q = (as.length + bs.length ≤ sizeLine ∧ newL fz (as ++ bs) h Q) := by
  simp only [binD, rdL, e]
def kl (c : Str) : List (List Nat × Bool) := (kn.map fun (p : List Nat × Str) => (p.1, subE c p.2)) ++ [([111, 116, 104, 101, 114], false)]
def bpD (p : List Nat × Bool) : D := .tup [.str p.1, .bl p.2]
theorem b_kinds (sps : List DSp) (xs : List Str) (ds h xq Q) (q : spKinds xs ds h xq Q) : body sps (E_kinds xs) 4 ds h xq Q := by
  obtain ⟨p, c, fs, rfl, hp, hc, hQ⟩ := q
  have v1 : subE c "ValueError" = true := by simp [subE]
  have v2 : subE c "MarkError" = true := by simp [subE]
  simp [body, E_kinds, startD, hp, hc, v1, v2]
  refine ⟨by decide, fun q1 h1 n1 e1 x1 => ?_⟩
  have p1 := x1 p _ hp
  simp [p1, hc]
  rw [bin_addLR e1]
  refine ⟨by decide, by rw [sz]; simp, fun q2 h2 n2 e2 x2 => ?_⟩
  have p2 := x2 p _ p1
  simp [p2, hc]
  rw [bin_addLR e2]
  refine ⟨by decide, by rw [sz]; simp, fun q3 h3 n3 e3 x3 => ?_⟩
  have p3 := x3 p _ p2
  simp [p3, hc]
  rw [bin_addLR e3]
  refine ⟨by decide, by rw [sz]; simp, fun q4 h4 n4 e4 x4 => ?_⟩
  have p4 := x4 p _ p3
  simp [p4, hc]
  rw [bin_addLR e4]
  refine ⟨by decide, by rw [sz]; simp, fun q5 h5 n5 e5 x5 => ?_⟩
  have p5 := x5 p _ p4
  simp [p5, hc]
  rw [bin_addLR e5]
  refine ⟨by decide, by rw [sz]; simp, fun q6 h6 n6 e6 x6 => ?_⟩
  have p6 := x6 p _ p5
  simp [p6, hc, tyB_append e6, v1, v2]
  rw [append_mth e6]
  refine ⟨by decide, by rw [sz]; simp, fun h7 e7 x7 => ?_⟩
  dsimp only
  rw [rdL_ref e7]
  dsimp only
  have nq : p ≠ q6 := ne_of n6 p5
  have el : (([D.tup [D.str [116, 101, 120, 116], D.bl (subE c "BadText")], D.tup [D.str [114, 111, 119], D.bl (subE c "BadRow")]] ++ [D.tup [D.str [116, 114, 101, 101], D.bl (subE c "BadTree")], D.tup [D.str [99, 104, 97, 110, 103, 101], D.bl (subE c "BadChange")]] ++
    [D.tup [D.str [112, 108, 97, 99, 101], D.bl (subE c "OutOfPlace")], D.tup [D.str [109, 97, 107, 101], D.bl (subE c "NoMake")]] ++ [D.tup [D.str [103, 114, 101, 97, 116], D.bl (subE c "TooGreat")], D.tup [D.str [112, 97, 112, 101, 114], D.bl (subE c "BadPaper")]] ++
    [D.tup [D.str [114, 111, 119, 115], D.bl (subE c "BadRows")], D.tup [D.str [102, 111, 114, 109], D.bl (subE c "BadForm")]] ++ [D.tup [D.str [109, 97, 107, 101, 115], D.bl (subE c "BadMakes")], D.tup [D.str [98, 97, 115, 101], D.bl (subE c "NoBase")]]) ++ [D.tup [D.str [111, 116, 104, 101, 114], D.bl false]]) =
      (kl c).map bpD := rfl
  rw [el] at e7 ⊢
  refine compLoop_pure bpD (fun b => if b.2 = true then some (.str b.1) else none) (rdL_ref e7) _ [] (fun b hb => ?_) (by rw [sz]; simp [kl, kn]) ?_
  · refine ⟨[some (.ref p), some (.ref q6), some (.str b.1), some (.bl b.2)], by simp [bpD, wipeR], fun N hN => ?_⟩
    obtain ⟨b1, b2⟩ := b
    cases b2 <;> simpa using hN
  · refine ⟨h, ?_, ?_⟩
    · have x16 : Ext h h6 := ((((x1.trans x2).trans x3).trans x4).trans x5).trans x6
      refine ext_put x16 x7 ?_
      exact ext_none ((((x1.trans x2).trans x3).trans x4).trans x5) n6
    · have ek : (kl c).filterMap (fun b => if b.2 = true then some (D.str b.1) else none) = (kindsOf c).map D.str := by
        unfold kl
        rw [List.filterMap_append]
        simp only [kindsOf, List.filterMap_cons, List.filterMap_nil, List.append_nil, Bool.false_eq_true, if_false]
        generalize kn = l
        induction l with
        | nil => rfl
        | cons a l ih =>
          cases e : subE c a.2 <;> simp [e] at ih ⊢ <;> exact ih
      rw [List.nil_append, ek]
      exact hQ
theorem try_hit {ks : List Str} {c : Str} {i : Nat} {su : List (Nat × SV)} {Z : DEnds} {ρ : Rho} {y : Exc} {h : PH} (m : y.cls ∈ ks) (e : subE y.cls c = true)
    (q : ∀ (p : Addr) (h2 : PH), h p = none → h2 p = some (.exc y.cls y.fs) → Ext h h2 → Z.nx ((suite p su (ρ.set i (some (.ref p)))).set i none) h2) : xqTry ks c (some i) su Z ρ y h := by
  refine ⟨m, ?_⟩
  rw [e]
  exact q
theorem walk_app : ∀ (a : List D) (t : T) (b : List D), walkT t (a ++ b) = (walkT t a).bind fun u => walkT u b
  | [], t, b => by simp [walkT]
  | x :: a, .node w ks, b => by
    cases x with
    | int k =>
      simp only [List.cons_append, walkT]
      by_cases h0 : 0 ≤ k
      · simp only [h0, if_true]
        cases e : ks[k.toNat]? with
        | none => rfl
        | some u => exact walk_app a u b
      · simp only [h0, if_false, Option.bind_none]
    | _ => simp [walkT]
mutual
theorem alls_walk : ∀ (t : T) (pl : List Int), ∀ p ∈ alls t pl, ∃ r : List Int, p.1 = pl ++ r ∧ walkT t (r.map D.int) = some p.2 ∧ r.length + dpt p.2 ≤ dpt t ∧ (∀ i ∈ r, 0 ≤ i) ∧ (wok t = true → wok p.2 = true) ∧ size p.2 ≤ size t
  | .node w ks, pl, p, hp => by
    simp only [alls, List.mem_cons] at hp
    rcases hp with rfl | hp
    · exact ⟨[], by simp, by simp [walkT], by simp, by simp, id, Nat.le_refl _⟩
    · obtain ⟨j, u, r, e1, e2, e3, e4, e5, e6, e7⟩ := allsK_walk ks pl 0 p hp
      refine ⟨(j : Int) :: r, ?_, ?_, ?_, ?_, ?_, ?_⟩
      · simpa using e2
      · simp [walkT, e1, e3]
      · have := mem_sizes (List.mem_of_getElem? e1)
        simp only [List.length_cons, dpt]
        omega
      · intro i hi
        rcases List.mem_cons.mp hi with rfl | hi
        · omega
        · exact e5 i hi
      · intro q
        simp only [wok, Bool.and_eq_true_iff] at q
        exact e6 q.2
      · have := mem_sizes (List.mem_of_getElem? e1)
        simp only [size]
        omega
theorem allsK_walk : ∀ (ks : List T) (pl : List Int) (i : Nat), ∀ p ∈ allsK ks pl i, ∃ (j : Nat) (u : T) (r : List Int), ks[j]? = some u ∧ p.1 = pl ++ [((i + j : Nat) : Int)] ++ r ∧ walkT u (r.map D.int) = some p.2 ∧ r.length + dpt p.2 ≤ dpt u ∧ (∀ i ∈ r, 0 ≤ i) ∧ (woks ks = true → wok p.2 = true) ∧ size p.2 ≤ size u
  | k :: ks, pl, i, p, hp => by
    simp only [allsK, List.mem_append] at hp
    rcases hp with hp | hp
    · obtain ⟨r, e1, e2, e3, e4, e5, e6⟩ := alls_walk k (pl ++ [(i : Int)]) p hp
      refine ⟨0, k, r, rfl, by simpa using e1, e2, e3, e4, fun q => ?_, e6⟩
      simp only [woks, Bool.and_eq_true_iff] at q
      exact e5 q.1
    · obtain ⟨j, u, r, e1, e2, e3, e4, e5, e6, e7⟩ := allsK_walk ks pl (i + 1) p hp
      refine ⟨j + 1, u, r, by simpa using e1, by rw [e2, show i + 1 + j = i + (j + 1) by omega], e3, e4, e5, fun q => ?_, e7⟩
      simp only [woks, Bool.and_eq_true_iff] at q
      exact e6 q.2
end
theorem alls_fa {t : T} {p : List Int × T} (h : p ∈ alls t []) : fa t (itup p.1) = some p.2 ∧ p.1.length + dpt p.2 ≤ dpt t ∧ (∀ i ∈ p.1, 0 ≤ i) ∧ (wok t = true → wok p.2 = true) ∧ size p.2 ≤ size t := by
  obtain ⟨r, e1, e2, e3, e4, e5, e6⟩ := alls_walk t [] p h
  rw [List.nil_append] at e1
  rw [e1]
  exact ⟨e2, e3, e4, e5, e6⟩
/-- one step more from a place -/
theorem fa_more {t u : T} {is : List Int} (e : fa t (itup is) = some u) (x : List D) : fa t (.tup (is.map D.int ++ x)) = walkT u x := by
  show walkT t (is.map D.int ++ x) = _
  rw [walk_app, show walkT t (is.map D.int) = some u from e]
  rfl
theorem walk_many (u : T) (k : Int) (h : (u.kids.length : Int) ≤ k) (r : List D) : walkT u (.int k :: r) = none := by
  cases u with
  | node w ks =>
    simp only [T.kids] at h
    have h0 : 0 ≤ k := by omega
    have e : ks[k.toNat]? = none := List.getElem?_eq_none (by omega)
    simp only [walkT, h0, if_true, e]
theorem walk_neg (u : T) (r : List D) : walkT u (.int (-1) :: r) = none := by
  cases u with
  | node w ks => simp [walkT]
theorem dats_ints {h : PH} (is : List Int) : dats h (is.map D.int) := .of fun d m => by
  obtain ⟨i, _, rfl⟩ := List.mem_map.mp m
  simp only [dat]
theorem dats_app {h : PH} {a b : List D} (x : dats h a) (y : dats h b) : dats h (a ++ b) := .of fun d m => by
  rcases List.mem_append.mp m with z | z
  · exact x.mem d z
  · exact y.mem d z
/-! ### good values -/
theorem purs_map {α : Type} (f : α → D) : ∀ l : List α, (∀ x ∈ l, pur (f x) = true) → purs (l.map f) = true
  | [], _ => rfl
  | x :: l, h => by simp only [List.map_cons, purs, h x (by simp), purs_map f l fun y hy => h y (by simp [hy]), Bool.and_self]
theorem nobs_map {α : Type} (f : α → D) : ∀ l : List α, (∀ x ∈ l, nob (f x) = true) → nobs (l.map f) = true
  | [], _ => rfl
  | x :: l, h => by simp only [List.map_cons, nobs, h x (by simp), nobs_map f l fun y hy => h y (by simp [hy]), Bool.and_self]
theorem deps_map {α : Type} (f : α → D) (n : Nat) : ∀ l : List α, (∀ x ∈ l, dep (f x) ≤ n) → deps (l.map f) ≤ n
  | [], _ => Nat.zero_le _
  | x :: l, h => by
    have h1 := h x (by simp)
    have h2 := deps_map f n l fun y hy => h y (by simp [hy])
    simp only [List.map_cons, deps]
    omega
theorem gd_itup (is : List Int) : Gd (itup is) := ⟨by simp only [pur]; exact purs_map _ _ fun _ _ => rfl, by simp only [nob]; exact nobs_map _ _ fun _ _ => rfl, by
  have := deps_map D.int 0 is fun _ _ => Nat.le_refl _
  simp only [dep]; omega⟩
theorem gd_rol {α : Type} (f : α → D) (l : List α) (n : Nat) (hn : n < 64) (h : ∀ x ∈ l, Gd (f x) ∧ dep (f x) ≤ n) : Gd (.rol (l.map f)) := ⟨by simp only [pur]; exact purs_map _ _ fun x hx => (h x hx).1.p, by simp only [nob]; exact nobs_map _ _ fun x hx => (h x hx).1.n, by
  have := deps_map f n l fun x hx => (h x hx).2
  simp only [dep]; omega⟩
theorem dep_itup (is : List Int) : dep (itup is) ≤ 1 := by
  have := deps_map D.int 0 is fun _ _ => Nat.le_refl _
  simp only [dep]; omega
theorem grow0 {ds h xq Q} (q : spGrow 0 ds h xq Q) : False := by
  obtain ⟨p, k, s, c, m, n, rfl, hk, hk0, _⟩ := q
  omega
theorem all0 {ds h xq Q} (q : spAll 0 ds h xq Q) : False := by
  obtain ⟨t, pl, _, hd, _⟩ := q
  have := dpt_pos t
  omega
theorem look0 {ds h xq Q} (q : spLook 0 ds h xq Q) : False := by
  obtain ⟨x, n, _, hn, _⟩ := q
  omega
/-- the script's cells, as the laws walk them -/
theorem itEL_script {sps : List DSp} {ρ : Rho} {h : PH} {xq : XQ} {R : List D → (PH → Prop) → PH → Prop} {ns : List Int} (m : Nat) (h0 : ρ[0]? = some (some (.rol (ns.map D.int)))) (hn : ns.length ≤ 63) (hm : m ≤ 100)
    (q : ∀ l stay, (∀ h', stay h') → (∀ d ∈ l, ∃ (k : Nat) (c : Int), d = .tup [.int (k : Nat), .int c] ∧ k < m + 1) → R l stay h) : rdI sps (.itEL (.op true .add (.sl true (.var 0) .nil (.int (m : Nat))) (.lst true (.cons (.b1 .sum (.var 0)) .nil)))) ρ h xq R := by
  have su : ∀ (h : PH) (Q : D → PH → Prop), b1D .sum (.rol (ns.map D.int)) h Q = Q (.int ns.sum) h := fun h Q => by simp only [b1D, rdL_rol, ints_int]
  have cut : ∀ Q' : D → PH → Prop, slD true (.rol (ns.map D.int)) none (some (m : Int)) h Q' = Q' (.rol ((ns.take m).map D.int)) h := fun Q' => by
    show newL true (cutL (ns.map D.int) none (some ((m : Nat) : Int))) h Q' = _
    rw [cut_take, List.map_take]
    rfl
  simp [h0]
  rw [cut]
  simp [su]
  refine ⟨by decide, by rw [sz]; omega, ?_⟩
  have en : natsD (min m ns.length + 1) = natsD ((List.take m (List.map D.int ns) ++ [D.int ns.sum]).length) := by simp
  rw [en, pairs_enum0]
  generalize hl : List.take m (List.map D.int ns) ++ [D.int ns.sum] = l
  have l1 : l.length ≤ m + 1 := by rw [← hl]; simp; omega
  have li : ∀ d ∈ l, ∃ c : Int, d = .int c := fun d hd => by
    rw [← hl, ← List.map_take] at hd
    rcases List.mem_append.mp hd with z | z
    · obtain ⟨c, _, rfl⟩ := List.mem_map.mp z
      exact ⟨c, rfl⟩
    · simp at z
      exact ⟨_, z⟩
  have hh : ∀ (l' : List D) (i : Nat), (∀ d ∈ l', ∃ c : Int, d = .int c) → ∀ d ∈ enumD i l', ∃ (k : Nat) (c : Int), d = .tup [.int (k : Nat), .int c] ∧ k < i + l'.length := fun l' => by
    induction l' with
    | nil => intro i _ d hd; cases hd
    | cons a r ih =>
      intro i ha d hd
      simp only [enumD, List.mem_cons] at hd
      rcases hd with rfl | hd
      · obtain ⟨c, rfl⟩ := ha a (by simp)
        exact ⟨i, c, rfl, by simp⟩
      · obtain ⟨k, c, e, hk⟩ := ih (i + 1) (fun d hd => ha d (by simp [hd])) d hd
        exact ⟨k, c, e, by simp; omega⟩
  refine q _ _ (fun h' => by simp) fun d hd => ?_
  obtain ⟨k, c, e, hk⟩ := hh l 0 li d hd
  exact ⟨k, c, e, by omega⟩
end Lit
/-! More that the laws on trees share: a part put otherwise, repr of trees, dicts by places. -/
namespace Lit
open PySem PySem.Spec PyProof.Rows L2
/-! ### a part put otherwise -/
def withD : T → List Int → D → D
  | _, [], x => x
  | .node w ks, i :: is, x => .tup [.str w, .tup ((encs ks).set i.toNat (match ks[i.toNat]? with
    | some k => withD k is x
    | none => .non))]
def E_with (iW : Nat) : S := .cons (.ife (.cmp .eq (.var 1) (.tup .nil)) (.cons (.ret (.fgt (.var 2))) .nil) .nil) (.cons (.set (.nm 3) (.b1 (.list false) (.ix (.var 0) (.int 1)))) (.cons (.setI (.var 3) (.ix (.var 1) (.int 0)) (.call iW (.cons (.ix (.var 3) (.ix (.var 1) (.int 0))) (.cons (.sl true (.var 1) (.int 1) .nil) (.cons (.var 2) .nil))))) (.cons (.ret (.fgt (.tup (.cons (.ix (.var 0) (.int 0)) (.cons (.b1 .tuple (.var 3)) .nil))))) .nil)))
def spWith (d : Nat) : DSp := fun ds h _ Q => ∃ (t u : T) (p : List Int) (x : D), ds = [enc t, itup p, x] ∧ p.length < d ∧ walkT t (p.map D.int) = some u ∧ Q (withD t p x) h
theorem cut_from {α : Type} (a : α) (l : List α) : cutL (a :: l) (some (1 : Int)) none = l := by
  unfold cutL
  have e1 : HT.sIx (a :: l).length 0 (some ((1 : Nat) : Int)) = 1 := by rw [HT.sIx_nat]; simp
  have e2 : HT.sIx (a :: l).length (a :: l).length none = (a :: l).length := rfl
  rw [show (1 : Int) = ((1 : Nat) : Int) from rfl, e1, e2]
  simp
theorem b_with (sps : List DSp) (iW d : Nat) (e : sps[iW]? = some (spWith d)) (ds h xq Q) (q : spWith (d + 1) ds h xq Q) : body sps (E_with iW) 4 ds h xq Q := by
  obtain ⟨t, u, p, x, rfl, hp, hw, hQ⟩ := q
  have e0 : ∀ R : Bool → Prop, cmpD .eq (itup p) (.tup []) h R = R (decide (p = [])) := fun R => eq_itup (y := [])
  cases p with
  | nil =>
    simp [body, E_with, startD]
    rw [e0]
    simp
    exact ⟨h, .refl, by simpa [withD] using hQ⟩
  | cons i is =>
    cases t with
    | node w ks =>
      simp only [List.map_cons, walkT] at hw
      by_cases h0 : 0 ≤ i
      · rw [if_pos h0] at hw
        cases ek : ks[i.toNat]? with
        | none => rw [ek] at hw; cases hw
        | some k =>
          rw [ek] at hw
          have a0 : atI [D.str w, .tup (encs ks)] 0 = some (.str w) := by simp [atI, ixN]
          have a1 : atI [D.str w, .tup (encs ks)] 1 = some (.tup (encs ks)) := by simp [atI, ixN]
          have ai : atI (D.int i :: is.map D.int) 0 = some (.int i) := by
            have := atI_nat' (l := D.int i :: is.map D.int) (k := 0) (by omega)
            simpa using this
          have il : i.toNat < ks.length := (List.getElem?_eq_some_iff.mp ek).1
          have ak : atI (encs ks) i = some (enc k) := by rw [atI_nat' h0, encs_get, ek]; rfl
          have ixn : ixN (encs ks).length i = some i.toNat := by
            unfold ixN
            rw [if_pos h0, if_pos (by rw [encs_len]; omega)]
          simp [body, E_with, startD, enc, ixD, a1, b1D]
          rw [e0]
          simp
          intro p1 h1 n1 f1 x1
          simp [f1, ai, ak]
          rw [sl_tup, List.map_cons, cut_from]
          refine spAt_ok e ⟨k, u, is, x, rfl, by simp at hp; omega, hw, ?_⟩
          simp [ai, setD, f1, ixn]
          intro h2 f2 x2
          simp [a0, f2, rdQ, rdL]
          refine ⟨by decide, h, ext_put x1 x2 n1, ?_⟩
          simpa [withD, ek] using hQ
      · rw [if_neg h0] at hw; cases hw
theorem with0 {ds h xq Q} (q : spWith 0 ds h xq Q) : False := by
  obtain ⟨t, u, p, x, _, hp, _⟩ := q
  omega
/-! ### repr of a tree -/
theorem tupleText_len (ts : List Str) : (tupleText ts).length ≤ (ts.map (·.length)).sum + 2 * ts.length + 3 := by
  have j := StrLaws.join_length_le ", " ts
  have e2 : ((", " : String) : Str).length = 2 := rfl
  have e1 : ((if ts.length == 1 then ",)" else ")" : String) : Str).length ≤ 2 := by split <;> decide
  have e0 : (("(" : Str)).length = 1 := rfl
  unfold tupleText
  rw [strLen_append, strLen_append]
  rw [e2] at j
  omega
mutual
theorem shown_enc : ∀ t : T, wok t = true → (toPD (enc t)).shown.length + 2 ≤ 100 * size t
  | .node w ks, q => by
    simp only [wok, Bool.and_eq_true_iff] at q
    have h1 := isN_len q.1
    have h2 := showns_encs ks q.2
    have r := StrLaws.reprText_len (mkS w) (fun c hc => by
      have := lets_lt c (h1.2.2 c (by simpa using hc))
      omega)
    have l1 : (mkS w).length = w.length := mkS_len w
    rw [l1] at r
    have t1 := tupleText_len (PyData.shownAll (toPDs (encs ks)))
    have t2 := tupleText_len [reprText (mkS w), tupleText (PyData.shownAll (toPDs (encs ks)))]
    simp only [List.map_cons, List.map_nil, List.sum_cons, List.sum_nil, List.length_cons, List.length_nil] at t2
    simp only [enc, toPD, toPDs, PyData.shown, PyData.shownAll, size]
    omega
theorem showns_encs : ∀ ks : List T, woks ks = true → ((PyData.shownAll (toPDs (encs ks))).map (·.length)).sum + 2 * (PyData.shownAll (toPDs (encs ks))).length ≤ 100 * sizes ks
  | [], _ => by simp [encs, toPDs, PyData.shownAll]
  | k :: ks, q => by
    simp only [woks, Bool.and_eq_true_iff] at q
    have h1 := shown_enc k q.1
    have h2 := showns_encs ks q.2
    simp only [encs, toPDs, PyData.shownAll, List.map_cons, List.sum_cons, List.length_cons, sizes]
    omega
end
mutual
theorem showable_enc : ∀ t : T, (toPD (enc t)).showable = true
  | .node w ks => by simp only [enc, toPD, toPDs, PyData.showable, PyData.showableAll, showables_encs ks, Bool.and_self]
theorem showables_encs : ∀ ks : List T, PyData.showableAll (toPDs (encs ks)) = true
  | [] => rfl
  | k :: ks => by simp only [encs, toPDs, PyData.showableAll, showable_enc k, showables_encs ks, Bool.and_self]
end
theorem repr_enc {t : T} (g : GT t) {h : PH} {Q : D → PH → Prop} : b1D .repr (enc t) h Q = Q (.str (toPD (enc t)).shown.cps.toList) h := by
  have gd := gd_enc g.w g.d
  have d1 := deref_pur (h := h) 70 (enc t) gd.p (by have := gd.l; omega)
  have s1 := showable_enc t
  have s2 : (toPD (enc t)).depth ≤ 60 := by have := depth_pd (enc t); have := dep_enc t; have := g.d; omega
  have s3 : (toPD (enc t)).hasDict = false := PyData.hasDict_of_canLay _ (lay_pur _ gd.p)
  have s4 : (toPD (enc t)).shown.length ≤ sizeLine := by have := shown_enc t g.w; have := g.s; rw [sz]; omega
  simp only [b1D, d1, s1, s2, s3, s4, true_and]
/-! ### dicts by places -/
def itK (kvs : List (D × D)) : Prop := ∀ kv ∈ kvs, ∃ p : List Int, kv.1 = itup p
theorem eqFs_ints : ∀ a b : List Int, eqFs (a.map D.int) (b.map D.int) = decide (a = b)
  | [], [] => rfl
  | [], _ :: _ => by simp [eqFs]
  | _ :: _, [] => by simp [eqFs]
  | x :: a, y :: b => by simp [eqFs, eqF, eqFs_ints a b]
theorem eqK_itup (a b : List Int) : eqK (itup a) (itup b) = decide (a = b) := eqFs_ints a b
theorem keyOk_itup (p : List Int) : keyOk (itup p) = true := by cases p <;> simp [keyOk, itup, strs1]
theorem like_itup {kvs : List (D × D)} (k : itK kvs) (p : List Int) : likeKeys (itup p) kvs = true := by
  show (kvs.all fun p => match p.1 with
    | .tup _ => true
    | _ => false) = true
  rw [List.all_eq_true]
  intro kv m
  obtain ⟨q, e⟩ := k kv m
  rw [e]
theorem getD_app {k : D} : ∀ (as bs : List (D × D)), getD? k (as ++ bs) = match getD? k as with
    | some v => some v
    | none => getD? k bs
  | [], _ => rfl
  | (a, v) :: as, bs => by
    simp only [List.cons_append, getD?]
    split
    · rfl
    · exact getD_app as bs
theorem getDn_none {p : List Int} : ∀ {kvs : List (D × D)}, (kvs.any (fun q => eqK q.1 (itup p))) = false → getD? (itup p) kvs = none
  | [], _ => rfl
  | (a, v) :: kvs, h => by
    simp only [List.any_cons, Bool.or_eq_false_iff] at h
    simp only [getD?, h.1, if_false, getDn_none h.2]
    rfl
theorem getD_map {p q : List Int} {v : D} : ∀ {kvs : List (D × D)}, itK kvs → getD? (itup q) (kvs.map fun r => if eqK r.1 (itup p) = true then (r.1, v) else r) = match getD? (itup q) kvs with
    | some w => some (if q = p then v else w)
    | none => none
  | [], _ => rfl
  | (a, w) :: kvs, k => by
    obtain ⟨r, e⟩ := k (a, w) (by simp)
    have e : a = itup r := e
    subst e
    have ih := getD_map (p := p) (q := q) (v := v) (kvs := kvs) fun z m => k z (by simp [m])
    simp only [List.map_cons, eqK_itup, decide_eq_true_eq] at ih ⊢
    by_cases h1 : r = p
    · subst h1
      simp only [if_true, getD?, eqK_itup, decide_eq_true_eq]
      by_cases h2 : r = q
      · subst h2; simp
      · simp only [h2, if_false]; exact ih
    · simp only [h1, if_false, getD?, eqK_itup, decide_eq_true_eq]
      by_cases h2 : r = q
      · subst h2; simp [h1]
      · simp only [h2, if_false]; exact ih
theorem getD_set {p q : List Int} {v : D} {kvs : List (D × D)} (k : itK kvs) : getD? (itup q) (setKV (itup p) v kvs) = if q = p then some v else getD? (itup q) kvs := by
  unfold setKV
  by_cases h : (kvs.any fun r => eqK r.1 (itup p)) = true
  · rw [if_pos h, getD_map k]
    by_cases hq : q = p
    · subst hq
      rw [if_pos rfl]
      cases e : getD? (itup q) kvs with
      | some w => simp
      | none =>
        exfalso
        have : ∀ {l : List (D × D)}, (l.any fun r => eqK r.1 (itup q)) = true → getD? (itup q) l ≠ none := fun {l} => by
          induction l with
          | nil => intro h; cases h
          | cons a l ih =>
            intro h
            simp only [List.any_cons, Bool.or_eq_true_iff] at h
            obtain ⟨a1, a2⟩ := a
            simp only [getD?]
            by_cases z : eqK a1 (itup q) = true
            · rw [if_pos z]; simp
            · rw [if_neg z]
              exact ih (h.resolve_left z)
        exact this h e
    · rw [if_neg hq]
      cases getD? (itup q) kvs <;> simp [hq]
  · rw [if_neg h, getD_app]
    simp only [Bool.not_eq_true] at h
    by_cases hq : q = p
    · subst hq
      rw [getDn_none h, if_pos rfl]
      simp [getD?, eqK_itup]
    · rw [if_neg hq]
      cases getD? (itup q) kvs with
      | some w => rfl
      | none =>
        simp [getD?, eqK_itup]
        exact fun z => hq z.symm
theorem itK_set {p : List Int} {v : D} {kvs : List (D × D)} (k : itK kvs) : itK (setKV (itup p) v kvs) := by
  unfold setKV
  split
  · intro kv m
    obtain ⟨r, mr, e⟩ := List.mem_map.mp m
    obtain ⟨q, eq⟩ := k r mr
    split at e <;> (subst e; exact ⟨q, eq⟩)
  · intro kv m
    rcases List.mem_append.mp m with m | m
    · exact k kv m
    · simp at m
      subst m
      exact ⟨p, rfl⟩
theorem len_set {k v : D} {kvs : List (D × D)} : (setKV k v kvs).length ≤ kvs.length + 1 := by
  unfold setKV
  split <;> simp
/-! ### == of a told list with none -/
theorem cmp_neLN {p : Addr} {xs : List D} {h : PH} (e : h p = some (.lst xs)) (a : purs xs = true) (l : deps xs ≤ 60) {R : Bool → Prop} : cmpD .ne (.ref p) (.rol []) h R = R (!xs.isEmpty) := by
  have d1 : deref 70 h (.ref p) = some (.rol xs) := by
    have := deref_pur (h := h) 70 (.rol xs) (by simp only [pur, a]) (by simp only [dep]; omega)
    show (match h p with
      | some (.lst ds) => (ds.mapM (deref 69 h)).map D.rol
      | _ => none) = _
    rw [e]
    exact this
  have d2 : deref 70 h (.rol []) = some (.rol []) := rfl
  show deepEq h (.ref p) (.rol []) (fun b => R (!b)) = _
  rw [deepEq_eq d1 d2 (sane_pur (by simp only [pur, a]) (by simp only [dep]; omega)) (sane_pur rfl (by simp [dep, deps]))]
  congr 2
  cases xs <;> simp [eqv, toPD, toPDs, PyData.eqv, PyData.eqvAll]
end Lit
/-! The law's own look at a tree's text, sign by sign, tells what the Reader tells. -/
namespace Lit
open PySem PySem.Spec PyProof.Rows L2
/-- the law's going: how deep, letters of the last word, was a part shut; where it stands -/
def lw : Nat → Nat → Bool → Nat → List Nat → Option Nat
  | d, l, s, at_, [] => if d = 0 ∧ (0 < l ∨ s = true) then none else some (at_ + 1)
  | d, l, s, at_, c :: r =>
    if c ∈ lets ∧ l < 8 ∧ s = false then lw d (l + 1) s (at_ + 1) r
    else if c = 40 ∧ 0 < l then lw (d + 1) 0 s (at_ + 1) r
    else if c = 44 ∧ 0 < d ∧ (0 < l ∨ s = true) then lw d 0 false (at_ + 1) r
    else if c = 41 ∧ 0 < d ∧ (0 < l ∨ s = true) then lw (d - 1) 0 true (at_ + 1) r
    else some (at_ + 1)
/-- letters are read -/
theorem lw_word : ∀ (n : Nat) (s : List Nat) (d l at_ : Nat), l + n ≤ 8 → lw d l false at_ s = lw d (l + lead n s) false (at_ + lead n s) (s.drop (lead n s))
  | 0, s, d, l, at_, _ => by simp [lead]
  | n + 1, [], d, l, at_, _ => by simp [lead]
  | n + 1, c :: s, d, l, at_, h => by
    by_cases hc : c ∈ lets
    · have e : lead (n + 1) (c :: s) = lead n s + 1 := by simp only [lead, hc, if_true]
      rw [e, List.drop_succ_cons]
      have := lw_word n s d (l + 1) (at_ + 1) (by omega)
      rw [show l + (lead n s + 1) = l + 1 + lead n s by omega, show at_ + (lead n s + 1) = at_ + 1 + lead n s by omega, ← this]
      simp only [lw]
      rw [if_pos ⟨hc, by omega, trivial⟩]
    · have e : lead (n + 1) (c :: s) = 0 := by simp only [lead, hc, if_false]
      rw [e]
      simp
theorem noLet_lead : ∀ (n : Nat) (s : List Nat), lead n s < n → noLet (s.drop (lead n s)) = true
  | 0, s, h => absurd h (Nat.not_lt_zero _)
  | n + 1, [], _ => rfl
  | n + 1, c :: s, h => by
    by_cases hc : c ∈ lets
    · have e : lead (n + 1) (c :: s) = lead n s + 1 := by simp only [lead, hc, if_true]
      rw [e] at h ⊢
      rw [List.drop_succ_cons]
      exact noLet_lead n s (by omega)
    · have e : lead (n + 1) (c :: s) = 0 := by simp only [lead, hc, if_false]
      rw [e]
      simp only [List.drop_zero, noLet]
      exact decide_eq_true hc
/-- where the Reader stands, as the law does -/
def Rd.lw (t : List Nat) (s : Rd) : Option Nat := Lit.lw (s.ws.length - 1) (if s.br = true then (s.ws.headD []).length else 0) (!s.br) s.sp (t.drop s.sp)
structure Rd.Gk (t : List Nat) (s : Rd) : Prop where
  o : s.Ok t
  w : 1 ≤ s.ws.length
  b : s.br = true → (s.ws.headD []).length = 8 ∨ noLet (t.drop s.sp) = true
  k : s.br = true → s.inn.headD [] = []
/-- begin, as the law does -/
theorem lw_begin {t : List Nat} {s : Rd} (o : s.Ok t) : match s.begin t with
    | .ok s2 => s2.Gk t ∧ Lit.lw s.ws.length 0 false s.sp (t.drop s.sp) = s2.lw t ∧ s.sp < s2.sp
    | .bad e => Lit.lw s.ws.length 0 false s.sp (t.drop s.sp) = some e := by
  cases eb : s.begin t with
  | bad e =>
    unfold Rd.begin at eb
    by_cases z : lead 8 (t.drop s.sp) = 0
    · rw [if_pos z] at eb
      cases eb
      cases ed : t.drop s.sp with
      | nil => simp [Lit.lw]
      | cons c r =>
        rw [ed] at z
        have hc : c ∉ lets := fun hc => by simp only [lead, hc, if_true] at z; omega
        simp [Lit.lw, hc]
    · rw [if_neg z] at eb; cases eb
  | ok s2 =>
    have o2 := o.begin eb
    unfold Rd.begin at eb
    by_cases z : lead 8 (t.drop s.sp) = 0
    · rw [if_pos z] at eb; cases eb
    · rw [if_neg z] at eb
      cases eb
      have ll := lead_le 8 (t.drop s.sp)
      have hl : ((t.drop s.sp).take (lead 8 (t.drop s.sp))).length = lead 8 (t.drop s.sp) := by rw [List.length_take]; omega
      refine ⟨⟨o2.1, by simp, fun _ => ?_, fun _ => rfl⟩, ?_, o2.2⟩
      · simp only [List.headD_cons, hl]
        by_cases h8 : lead 8 (t.drop s.sp) = 8
        · exact .inl h8
        · right
          have := noLet_lead 8 (t.drop s.sp) (by omega)
          rwa [List.drop_drop] at this
      · have := lw_word 8 (t.drop s.sp) s.ws.length 0 s.sp (by omega)
        rw [this]
        simp only [Rd.lw, List.length_cons, Nat.add_sub_cancel, if_true, List.headD_cons, hl, Bool.not_true, Nat.zero_add, List.drop_drop]
theorem drop_next {t r : List Nat} {sp c : Nat} (e : t.drop sp = c :: r) : t.drop (sp + 1) = r := by
  rw [← List.drop_drop, e]
  rfl
theorem lets_no {c : Nat} (h : c ∈ lets) : c ≠ 40 ∧ c ≠ 41 ∧ c ≠ 44 := ⟨fun z => no40 (z ▸ h), fun z => no41 (z ▸ h), fun z => no44 (z ▸ h)⟩
theorem lw_on {t : List Nat} {s : Rd} (g : s.Gk t) {c : Nat} {r : List Nat} (ed : t.drop s.sp = c :: r) : match s.on t c with
    | .ok s2 => s2.Gk t ∧ s.lw t = s2.lw t ∧ s.sp < s2.sp
    | .bad e => s.lw t = some e := by
  have hlt : s.sp < t.length := by
    have : (t.drop s.sp).length = t.length - s.sp := by simp
    rw [ed] at this
    simp at this
    omega
  have dn := drop_next ed
  have gw := g.w
  have o1 : ({ s with sp := s.sp + 1 } : Rd).Ok t := ⟨g.o.l, hlt, g.o.n, g.o.k, Nat.le_succ_of_le g.o.m, g.o.b⟩
  have hw : ∀ w ws, s.ws = w :: ws → 1 ≤ w.length := fun w ws e => (isN_len (g.o.n w (by rw [e]; simp))).1
  have hd : s.br = true → 0 < (s.ws.headD []).length := fun _ => by
    cases ew : s.ws with
    | nil => rw [ew] at gw; simp at gw
    | cons w ws => exact hw w ws ew
  have live : (0 < (if s.br = true then (s.ws.headD []).length else 0) ∨ (!s.br) = true) := by
    cases hb : s.br with
    | true => left; simpa [hb] using hd hb
    | false => right; rfl
  have nl : ¬ (c ∈ lets ∧ (if s.br = true then (s.ws.headD []).length else 0) < 8 ∧ (!s.br) = false) := fun ⟨h1, h2, h3⟩ => by
    have hb : s.br = true := by simpa using h3
    rw [if_pos hb] at h2
    rcases g.b hb with z | z
    · omega
    · rw [ed] at z
      exact absurd h1 (of_decide_eq_true z)
  have e0 : s.lw t = (if c = 40 ∧ 0 < (if s.br = true then (s.ws.headD []).length else 0) then Lit.lw (s.ws.length - 1 + 1) 0 (!s.br) (s.sp + 1) r
    else if c = 44 ∧ 0 < s.ws.length - 1 ∧ (0 < (if s.br = true then (s.ws.headD []).length else 0) ∨ (!s.br) = true) then Lit.lw (s.ws.length - 1) 0 false (s.sp + 1) r
    else if c = 41 ∧ 0 < s.ws.length - 1 ∧ (0 < (if s.br = true then (s.ws.headD []).length else 0) ∨ (!s.br) = true) then Lit.lw (s.ws.length - 1 - 1) 0 true (s.sp + 1) r
    else some (s.sp + 1)) := by
    unfold Rd.lw
    rw [ed]
    simp only [Lit.lw]
    rw [if_neg nl]
  rw [e0]
  unfold Rd.on
  by_cases h4 : c = 40
  · subst h4
    cases hb : s.br with
    | false =>
      have hm : s.may 40 = false := by simp [Rd.may, hb]
      simp [hm]
    | true =>
      have hm : s.may 40 = true := by simp [Rd.may, hb]
      have := lw_begin o1
      rw [if_pos hm, if_neg (by decide)]
      have hn : s.next 40 = { s with sp := s.sp + 1 } := rfl
      rw [hn]
      have hp : 0 < (s.ws.headD []).length := hd hb
      simp only [if_true, hp, and_self, Bool.not_true]
      rw [show s.ws.length - 1 + 1 = s.ws.length by omega]
      simp only [dn] at this
      cases eb : ({ s with sp := s.sp + 1 } : Rd).begin t with
      | bad e => rw [eb] at this; exact this
      | ok s2 => rw [eb] at this; exact ⟨this.1, this.2.1, by have h3 : s.sp + 1 < s2.sp := this.2.2; omega⟩
  · by_cases h2 : c = 44
    · subst h2
      by_cases hl : 1 < s.ws.length
      · have hm : s.may 44 = true := by simp [Rd.may, hl]
        rw [if_pos hm, if_neg (by decide), if_neg (by simp), if_pos ⟨rfl, by omega, live⟩]
        have hn : s.next 44 = ({ s with sp := s.sp + 1 } : Rd).shut := rfl
        have os := o1.shut hl
        have hws : ({ s with sp := s.sp + 1 } : Rd).shut.ws.length = s.ws.length - 1 := by
          have a := os.1.l
          unfold Rd.shut
          have gl := g.o.l
          cases ew : s.ws with
          | nil => rw [ew] at hl; simp at hl
          | cons w ws =>
            cases ei : s.inn with
            | nil => rw [ei] at gl; cases gl
            | cons k1 r1 =>
              cases r1 with
              | nil => rw [ei, ew] at gl; rw [ew] at hl; simp only [List.length_cons, List.length_nil] at gl hl; omega
              | cons k2 r2 => simp
        rw [hn]
        have := lw_begin os.1
        rw [os.2, hws] at this
        simp only [dn] at this
        cases eb : ({ s with sp := s.sp + 1 } : Rd).shut.begin t with
        | bad e => rw [eb] at this; exact this
        | ok s2 => rw [eb] at this; exact ⟨this.1, this.2.1, by have := this.2.2; omega⟩
      · have hm : s.may 44 = false := by simp [Rd.may, hl]
        have hz : ¬ (0 < s.ws.length - 1) := by omega
        simp [hm, hz]
    · by_cases h1 : c = 41
      · subst h1
        by_cases hl : 1 < s.ws.length
        · have hm : s.may 41 = true := by simp [Rd.may, hl]
          rw [if_pos hm, if_pos rfl, if_neg (by simp), if_neg (by simp), if_pos ⟨rfl, by omega, live⟩]
          have hn : s.next 41 = ({ s with sp := s.sp + 1 } : Rd).shut := rfl
          have os := o1.shut hl
          have hws : ({ s with sp := s.sp + 1 } : Rd).shut.ws.length = s.ws.length - 1 := by
            unfold Rd.shut
            have gl := g.o.l
            cases ew : s.ws with
            | nil => rw [ew] at hl; simp at hl
            | cons w ws =>
              cases ei : s.inn with
              | nil => rw [ei] at gl; cases gl
              | cons k1 r1 =>
                cases r1 with
                | nil => rw [ei, ew] at gl; rw [ew] at hl; simp only [List.length_cons, List.length_nil] at gl hl; omega
                | cons k2 r2 => simp
          rw [hn]
          refine ⟨⟨⟨os.1.l, os.1.s, os.1.n, os.1.k, os.1.m, os.1.b⟩, by rw [hws]; omega, fun z => (nomatch z), fun z => (nomatch z)⟩, ?_, by rw [os.2]; simp only []; omega⟩
          simp only [Rd.lw, hws, os.2, dn]
          rfl
        · have hm : s.may 41 = false := by simp [Rd.may, hl]
          have hz : ¬ (0 < s.ws.length - 1) := by omega
          simp [hm, hz]
      · have hm : s.may c = false := by simp [Rd.may, h4, h2, h1]
        simp [hm, h4, h2, h1]
theorem lw_run {t : List Nat} : ∀ (n : Nat) (s : Rd), s.Gk t → t.length ≤ s.sp + n → s.lw t = match s.run t n with
    | .ok s2 => if s2.ws.length = 1 then none else some (s2.sp + 1)
    | .bad e => some e := fun n => by
  have fin : ∀ s : Rd, s.Gk t → t.drop s.sp = [] → s.lw t = if s.ws.length = 1 then none else some (s.sp + 1) := fun s g ed => by
    have gw := g.w
    have live : (0 < (if s.br = true then (s.ws.headD []).length else 0) ∨ (!s.br) = true) := by
      cases hb : s.br with
      | true =>
        left
        cases ew : s.ws with
        | nil => rw [ew] at gw; simp at gw
        | cons w ws =>
          have := (isN_len (g.o.n w (by rw [ew]; simp))).1
          simp only [List.headD_cons, if_true]
          omega
      | false => right; rfl
    unfold Rd.lw
    rw [ed]
    simp only [Lit.lw]
    by_cases h1 : s.ws.length = 1
    · rw [if_pos h1, if_pos ⟨by omega, live⟩]
    · rw [if_neg h1, if_neg (by omega)]
  induction n with
  | zero =>
    intro s g h
    exact fin s g (List.drop_eq_nil_of_le (by omega))
  | succ n ih =>
    intro s g h
    simp only [Rd.run]
    cases ed : t.drop s.sp with
    | nil => exact fin s g ed
    | cons c r =>
      have := lw_on g ed
      cases eo : s.on t c with
      | bad e => rw [eo] at this; simpa [eo] using this
      | ok s2 =>
        rw [eo] at this
        obtain ⟨g2, e2, l2⟩ := this
        rw [e2]
        simpa [eo] using ih s2 g2 (by omega)
theorem run_gk {t : List Nat} : ∀ (n : Nat) (s s2 : Rd), s.Gk t → s.run t n = .ok s2 → s2.Gk t
  | 0, s, s2, g, e => by cases e; exact g
  | n + 1, s, s2, g, e => by
    simp only [Rd.run] at e
    cases ed : t.drop s.sp with
    | nil => rw [ed] at e; cases e; exact g
    | cons c r =>
      rw [ed] at e
      have := lw_on g ed
      cases eo : s.on t c with
      | bad e2 => simp only [eo] at e; cases e
      | ok s3 =>
        rw [eo] at this
        simp only [eo] at e
        exact run_gk n s3 s2 this.1 e
/-- the law's look tells what the Reader does -/
theorem lw_all (t : List Nat) : lw 0 0 false 0 t = match Rd.all t with
    | .ok _ => none
    | .bad e => some e := by
  have := lw_begin (t := t) (s := .zero) .zero
  unfold Rd.all
  cases eb : Rd.zero.begin t with
  | bad e =>
    rw [eb] at this
    exact this
  | ok s1 =>
    rw [eb] at this
    obtain ⟨g1, e1, l1⟩ := this
    have e0 : lw 0 0 false 0 t = s1.lw t := e1
    rw [e0, lw_run t.length s1 g1 (by omega)]
    dsimp only
    cases er : s1.run t t.length with
    | bad e => rfl
    | ok s2 =>
      have g2 := run_gk _ _ _ g1 er
      have ol := g2.o.l
      dsimp only
      by_cases h1 : s2.ws.length = 1
      · rw [if_pos h1]
        match ew : s2.ws, ei : s2.inn, h1, ol with
        | [w], ks :: r, _, _ => rfl
      · rw [if_neg h1]
        cases ew : s2.ws with
        | nil => rfl
        | cons w ws =>
          cases ws with
          | nil => rw [ew] at h1; exact absurd rfl h1
          | cons v vs => rfl
/-! ### what is read is what is written -/
def cms : List T → List Nat
  | [] => []
  | k :: ks => txt k ++ 44 :: cms ks
def low : List (List Nat) → List (List T) → List Nat
  | w :: ws, ks :: inn => low ws inn ++ w ++ [40] ++ cms ks
  | _, _ => []
def Rd.P (s : Rd) : List Nat := match s.ws, s.inn with
  | w :: ws, ks :: inn => low ws inn ++ w ++ txk ks
  | _, _ => []
theorem cms_snoc : ∀ (js : List T) (k : T), cms (js ++ [k]) = cms js ++ txt k ++ [44]
  | [], k => by simp [cms]
  | j :: js, k => by simp [cms, cms_snoc js k]
theorem txm_snoc : ∀ (js : List T) (k0 k : T), txt k0 ++ txm (js ++ [k]) = cms (k0 :: js) ++ txt k ++ [41]
  | [], k0, k => by simp [txm, cms]
  | j :: js, k0, k => by
    have := txm_snoc js j k
    simp only [List.cons_append, txm]
    rw [this]
    simp [cms]
theorem txk_snoc (js : List T) (k : T) : txk (js ++ [k]) = 40 :: (cms js ++ txt k ++ [41]) := by
  cases js with
  | nil => simp [txk, txm, cms]
  | cons j js => simp only [List.cons_append, txk, txm_snoc]
theorem take_add {t a b : List Nat} {n : Nat} (e : t.drop n = a ++ b) : t.take (n + a.length) = t.take n ++ a := by
  rw [List.take_add, e, List.take_left]
theorem P_begin {t : List Nat} {s s2 : Rd} (h : t.take s.sp = low s.ws s.inn) (e : s.begin t = .ok s2) : t.take s2.sp = s2.P := by
  unfold Rd.begin at e
  by_cases z : lead 8 (t.drop s.sp) = 0
  · rw [if_pos z] at e; cases e
  · rw [if_neg z] at e
    cases e
    simp only [Rd.P]
    rw [List.take_add, h]
    simp [txk]
theorem P_on {t : List Nat} {s s2 : Rd} (g : s.Gk t) (h : t.take s.sp = s.P) {c : Nat} {r : List Nat} (ed : t.drop s.sp = c :: r) (e : s.on t c = .ok s2) : t.take s2.sp = s2.P := by
  have ts : t.take (s.sp + 1) = s.P ++ [c] := by rw [← h]; exact take_add (a := [c]) (b := r) ed
  have gl := g.o.l
  have gw := g.w
  cases ew : s.ws with
  | nil => rw [ew] at gw; simp at gw
  | cons w ws =>
    cases ei : s.inn with
    | nil => rw [ei] at gl; cases gl
    | cons ks inn =>
      have eP : s.P = low ws inn ++ w ++ txk ks := by unfold Rd.P; rw [ew, ei]
      unfold Rd.on at e
      by_cases hm : s.may c = true
      · rw [if_pos hm] at e
        by_cases h4 : c = 40
        · subst h4
          rw [if_neg (by decide)] at e
          have hb : s.br = true := by simpa [Rd.may] using hm
          have hk : ks = [] := by have := g.k hb; rw [ei] at this; exact this
          subst hk
          refine P_begin ?_ e
          show t.take (s.sp + 1) = low s.ws s.inn
          rw [ts, eP, ew, ei]
          simp [low, cms, txk]
        · have h1 : 1 < s.ws.length := by
            unfold Rd.may at hm
            simp [h4] at hm
            exact hm.2
          cases ws with
          | nil => rw [ew] at h1; simp at h1
          | cons v vs =>
            cases inn with
            | nil => rw [ew, ei] at gl; simp at gl
            | cons js inn =>
              have es : s.next c = { s with sp := s.sp + 1, ws := v :: vs, inn := (js ++ [.node w ks]) :: inn } := by
                unfold Rd.next Rd.shut
                rw [if_neg h4]
                simp only [ew, ei]
              rw [es] at e
              have ep2 : s.P = low vs inn ++ v ++ [40] ++ cms js ++ txt (.node w ks) := by rw [eP, txt_eq]; simp [low]
              by_cases h5 : c = 41
              · subst h5
                rw [if_pos rfl] at e
                cases e
                show t.take (s.sp + 1) = low vs inn ++ v ++ txk (js ++ [.node w ks])
                rw [ts, ep2, txk_snoc]
                simp
              · rw [if_neg h5] at e
                have hc : c = 44 := by
                  unfold Rd.may at hm
                  simp [h4, h5] at hm
                  exact hm.1
                subst hc
                refine P_begin ?_ e
                show t.take (s.sp + 1) = low (v :: vs) ((js ++ [.node w ks]) :: inn)
                rw [ts, ep2]
                simp [low, cms_snoc]
      · rw [if_neg hm] at e; cases e
theorem P_run {t : List Nat} : ∀ (n : Nat) (s s2 : Rd), s.Gk t → t.length ≤ s.sp + n → t.take s.sp = s.P → s.run t n = .ok s2 → t = s2.P
  | 0, s, s2, g, hn, h, e => by
    cases e
    rw [← h, List.take_of_length_le (by omega)]
  | n + 1, s, s2, g, hn, h, e => by
    simp only [Rd.run] at e
    cases ed : t.drop s.sp with
    | nil =>
      rw [ed] at e
      cases e
      have : t.length ≤ s.sp := by
        have : (t.drop s.sp).length = t.length - s.sp := by simp
        rw [ed] at this
        simp at this
        omega
      rw [← h, List.take_of_length_le this]
    | cons c r =>
      rw [ed] at e
      have := lw_on g ed
      cases eo : s.on t c with
      | bad e2 => simp only [eo] at e; cases e
      | ok s3 =>
        rw [eo] at this
        simp only [eo] at e
        exact P_run n s3 s2 this.1 (by have := this.2.2; omega) (P_on g h ed eo) e
theorem all_txt' {t : List Nat} {u : T} (e : Rd.all t = .ok u) : t = txt u := by
  unfold Rd.all at e
  cases eb : Rd.zero.begin t with
  | bad e2 => rw [eb] at e; cases e
  | ok s1 =>
    rw [eb] at e
    dsimp only at e
    have hb := lw_begin (t := t) (s := .zero) .zero
    rw [eb] at hb
    cases er : s1.run t t.length with
    | bad e2 => rw [er] at e; cases e
    | ok s2 =>
      rw [er] at e
      dsimp only at e
      have p1 : t.take s1.sp = s1.P := P_begin (s := .zero) (by simp [Rd.zero, low]) eb
      have p2 := P_run t.length s1 s2 hb.1 (by omega) p1 er
      split at e
      · rename_i w ks r ew ei
        cases e
        rw [p2]
        unfold Rd.P
        rw [ew, ei]
        simp [low, txt_eq]
      · cases e
end Lit
/-! How deep a tree's text is, and how many parts it has, by its signs. -/
namespace Lit
open PySem PySem.Spec PyProof.Rows L2
/-- one sign's step -/
def dst (d : Int) (c : Nat) : Int := d + (if c = 40 then 1 else 0) - (if c = 41 then 1 else 0)
def mxs : Int → Int → List Nat → Int
  | _, m, [] => m
  | d, m, c :: r => mxs (dst d c) (if dst d c > m then dst d c else m) r
theorem mxs_plain : ∀ (w r : List Nat) (d m : Int), (∀ c ∈ w, c ≠ 40 ∧ c ≠ 41) → d ≤ m → mxs d m (w ++ r) = mxs d m r
  | [], _, _, _, _, _ => rfl
  | c :: w, r, d, m, h, hm => by
    have hc := h c (by simp)
    have e : dst d c = d := by unfold dst; rw [if_neg hc.1, if_neg hc.2]; omega
    simp only [List.cons_append, mxs, e]
    rw [if_neg (by omega)]
    exact mxs_plain w r d m (fun x hx => h x (by simp [hx])) hm
theorem word_plain {w : List Nat} (h : isN (.str w) = true) : ∀ c ∈ w, c ≠ 40 ∧ c ≠ 41 := fun c hc => by
  have := lets_no ((isN_len h).2.2 c hc)
  exact ⟨this.1, this.2.1⟩
mutual
theorem mxs_txt : ∀ (t : T) (r : List Nat) (d m : Int), wok t = true → d ≤ m → mxs d m (txt t ++ r) = mxs d (max m (d + dpt t - 1)) r
  | .node w ks, r, d, m, q, h => by
    simp only [wok, Bool.and_eq_true_iff] at q
    simp only [txt, List.append_assoc]
    rw [mxs_plain w _ d m (word_plain q.1) h, mxs_txk ks r d m q.2 h]
    simp only [dpt]
    congr 1
    omega
theorem mxs_txk : ∀ (ks : List T) (r : List Nat) (d m : Int), woks ks = true → d ≤ m → mxs d m (txk ks ++ r) = mxs d (max m (d + dpts ks)) r
  | [], r, d, m, _, h => by
    simp only [txk, List.nil_append, dpts]
    congr 1
    omega
  | k :: ks, r, d, m, q, h => by
    simp only [woks, Bool.and_eq_true_iff] at q
    have dp := dpt_pos k
    have e : dst d 40 = d + 1 := by simp [dst]
    simp only [txk, List.cons_append, List.append_assoc, mxs, e]
    rw [mxs_txt k _ (d + 1) _ q.1 (by split <;> omega), mxs_txm ks r (d + 1) _ q.2 (by split <;> omega)]
    simp only [dpts]
    congr 1
    · omega
    · split <;> omega
theorem mxs_txm : ∀ (ks : List T) (r : List Nat) (d m : Int), woks ks = true → d ≤ m → mxs d m (txm ks ++ r) = mxs (d - 1) (max m (d + dpts ks - 1)) r
  | [], r, d, m, _, h => by
    have e : dst d 41 = d - 1 := by simp [dst]
    simp only [txm, List.cons_append, List.nil_append, mxs, e, dpts]
    rw [if_neg (by omega)]
    congr 1
    omega
  | k :: ks, r, d, m, q, h => by
    simp only [woks, Bool.and_eq_true_iff] at q
    have dp := dpt_pos k
    have e : dst d 44 = d := by simp [dst]
    simp only [txm, List.cons_append, List.append_assoc, mxs, e]
    rw [if_neg (by omega), mxs_txt k _ d _ q.1 h, mxs_txm ks r d _ q.2 (by omega)]
    simp only [dpts]
    congr 1
    omega
end
/-- how many brackets and commas -/
def cnt (c : Nat) (l : List Nat) : Nat := (l.filter fun x => decide (x = c)).length
theorem cnt_app (c : Nat) (a b : List Nat) : cnt c (a ++ b) = cnt c a + cnt c b := by simp [cnt]
theorem cnt_cons (c x : Nat) (l : List Nat) : cnt c (x :: l) = (if x = c then 1 else 0) + cnt c l := by
  unfold cnt
  by_cases h : x = c
  · simp [h]; omega
  · simp [h]
theorem cnt_word {w : List Nat} (h : isN (.str w) = true) : cnt 40 w = 0 ∧ cnt 44 w = 0 := by
  have a := fun c hc => lets_no ((isN_len h).2.2 c hc)
  constructor
  · unfold cnt
    rw [List.length_eq_zero_iff, List.filter_eq_nil_iff]
    intro c hc
    simp [(a c hc).1]
  · unfold cnt
    rw [List.length_eq_zero_iff, List.filter_eq_nil_iff]
    intro c hc
    simp [(a c hc).2.2]
mutual
theorem cnt_txt : ∀ t : T, wok t = true → cnt 40 (txt t) + cnt 44 (txt t) + 1 = size t
  | .node w ks, q => by
    simp only [wok, Bool.and_eq_true_iff] at q
    have := cnt_word q.1
    have := cnt_txk ks q.2
    simp only [txt, cnt_app, size]
    omega
theorem cnt_txk : ∀ ks : List T, woks ks = true → cnt 40 (txk ks) + cnt 44 (txk ks) = sizes ks
  | [], _ => rfl
  | k :: ks, q => by
    simp only [woks, Bool.and_eq_true_iff] at q
    have := cnt_txt k q.1
    have := cnt_txm ks q.2
    simp only [txk, cnt_cons, cnt_app, sizes]
    simp
    omega
theorem cnt_txm : ∀ ks : List T, woks ks = true → cnt 40 (txm ks) + cnt 44 (txm ks) = sizes ks
  | [], _ => rfl
  | k :: ks, q => by
    simp only [woks, Bool.and_eq_true_iff] at q
    have := cnt_txt k q.1
    have := cnt_txm ks q.2
    simp only [txm, cnt_cons, cnt_app, sizes]
    simp
    omega
end
/-- the law's look at how great and deep a text's tree is -/
def fits (t : List Nat) : Bool := decide (mxs 1 1 t < 9) && decide (cnt 40 t + cnt 44 t < 60)
theorem fits_is {u : T} (q : wok u = true) : fits (txt u) = isT (enc u) := by
  have h1 := mxs_txt u [] 1 1 q (by omega)
  rw [List.append_nil] at h1
  simp only [mxs] at h1
  have h2 := cnt_txt u q
  have h3 := pl_enc u
  have dp := dpt_pos u
  unfold fits
  rw [h1]
  by_cases g : dpt u ≤ 8 ∧ size u ≤ 60
  · rw [isT_enc ⟨q, g.1, g.2⟩]
    simp only [Bool.and_eq_true_iff, decide_eq_true_eq]
    omega
  · have : isT (enc u) = false := by
      cases e : isT (enc u) with
      | false => rfl
      | true =>
        obtain ⟨t, et, gt⟩ := isT_dec e
        rw [enc_inj _ _ et] at g
        exact absurd ⟨gt.d, gt.s⟩ g
    rw [this]
    simp only [Bool.and_eq_false_iff, decide_eq_false_iff_not]
    omega
end Lit
/-! How often a sign stands in a text. -/
namespace Lit
open PySem PySem.Spec PyProof.Rows L2
open Builtin Builtin.Str
theorem occ_cnt (x : Str) (c : Nat) : ∀ (n a : Nat) (st : Array Nat × Nat), a + n = x.length + 1 → st.1.size ≤ a → st.2 ≤ a →
    (forIn (List.range' a n) st (StrLaws.occBody x ⟨#[c]⟩ x.length (x.length + 1))).run.fst.size = st.1.size + cnt c (x.cps.toList.drop a)
  | 0, a, st, h, _, _ => by
    have hx : x.length = x.cps.toList.length := by simp [Str.length]
    have : x.cps.toList.drop a = [] := List.drop_eq_nil_of_le (by rw [← hx]; omega)
    rw [this]
    simp [cnt]
  | n + 1, a, st, h, h1, h2 => by
    rw [List.range'_succ, List.forIn_cons]
    have hx : x.length = x.cps.toList.length := by simp [Str.length]
    unfold StrLaws.occBody
    by_cases hc : x.cps.toList[a]? = some c
    · obtain ⟨s1, s2⟩ := (StrLaws.subAt_one x c a).mpr hc
      rw [if_pos ⟨⟨⟨by omega, h2⟩, s1⟩, s2⟩]
      have ih := occ_cnt x c n (a + 1) (st.1.push a, a + (⟨#[c]⟩ : Str).length) (by omega) (by simp; omega) (Nat.le_refl _)
      have hd : x.cps.toList.drop a = c :: x.cps.toList.drop (a + 1) := by
        obtain ⟨hlt, e⟩ := List.getElem?_eq_some_iff.mp hc
        rw [List.drop_eq_getElem_cons hlt, e]
      rw [hd, cnt_cons, if_pos rfl]
      have : (forIn (List.range' (a + 1) n) (st.1.push a, a + (⟨#[c]⟩ : Str).length) (StrLaws.occBody x ⟨#[c]⟩ x.length (x.length + 1))).run.fst.size = st.1.size + (1 + cnt c (x.cps.toList.drop (a + 1))) := by
        rw [ih]
        simp
        omega
      exact this
    · have no : ¬ (((st.1.size < x.length + 1 ∧ st.2 ≤ a) ∧ a + (⟨#[c]⟩ : Str).length ≤ x.length) ∧ subAt x ⟨#[c]⟩ a = true) := fun h => hc ((StrLaws.subAt_one x c a).mp ⟨h.1.2, h.2⟩)
      rw [if_neg no]
      have ih := occ_cnt x c n (a + 1) (st.1, st.2) (by omega) (by simp only []; omega) (by simp only []; omega)
      have hd : cnt c (x.cps.toList.drop a) = cnt c (x.cps.toList.drop (a + 1)) := by
        by_cases hlt : a < x.cps.toList.length
        · rw [List.drop_eq_getElem_cons hlt, cnt_cons]
          have : ¬ x.cps.toList[a] = c := fun z => hc (by rw [List.getElem?_eq_getElem hlt, z])
          rw [if_neg this]
          omega
        · rw [List.drop_eq_nil_of_le (by omega), List.drop_eq_nil_of_le (by omega)]
      rw [hd]
      exact ih
theorem count_one (s : List Nat) (c : Nat) : Txt.count (mkS s) (mkS [c]) = ((cnt c s : Nat) : Int) := by
  unfold Txt.count
  rw [StrLaws.occ_eq, Array.length_toList]
  have := occ_cnt (mkS s) c ((mkS s).length + 1 - 0) 0 (#[], 0) (by omega) (by simp) (Nat.le_refl _)
  have e : (⟨#[c]⟩ : Str) = mkS [c] := rfl
  rw [e] at this
  rw [this]
  simp
end Lit
/-! The law's look at a text, walked. -/
namespace Lit
open PySem PySem.Spec PyProof.Rows L2
def T1_ : E := .land (.cons (.cmp .isin (.var 5) (.str lets)) (.cons (.cmp .lt (.var 2) (.int 8)) (.cons (.lnot (.var 3)) .nil)))
def T2_ : E := .land (.cons (.cmp .eq (.var 5) (.str [40])) (.cons (.cmp .gt (.var 2) (.int 0)) .nil))
def T3_ (c : Nat) : E := .land (.cons (.cmp .eq (.var 5) (.str [c])) (.cons (.cmp .gt (.var 1) (.int 0)) (.cons (.lor (.cons (.cmp .gt (.var 2) (.int 0)) (.cons (.var 3) .nil))) .nil)))
def E_wrongB : S := .cons (.ife T1_ (.cons (.set (.nm 2) (.op true .add (.var 2) (.int 1))) .nil) (.cons (.ife T2_ (.cons (.par2 1 2 (.op true .add (.var 1) (.int 1)) (.int 0)) .nil) (.cons (.ife (T3_ 44) (.cons (.set (.tup (.cons (.nm 2) (.cons (.nm 3) .nil))) (.tup (.cons (.int 0) (.cons (.bl false) .nil)))) .nil)
  (.cons (.ife (T3_ 41) (.cons (.par3 1 2 3 (.op true .sub (.var 1) (.int 1)) (.int 0) (.bl true)) .nil) (.cons (.ret (.op true .add (.var 4) (.int 1))) .nil)) .nil)) .nil)) .nil)) .nil
def T4_ : E := .land (.cons (.cmp .eq (.var 1) (.int 0)) (.cons (.lor (.cons (.cmp .gt (.var 2) (.int 0)) (.cons (.var 3) .nil))) .nil))
def E_wrong : S := .cons (.set (.tup (.cons (.nm 1) (.cons (.nm 2) (.cons (.nm 3) .nil)))) (.tup (.cons (.int 0) (.cons (.int 0) (.cons (.bl false) .nil))))) (.cons (.for_ (.itEL (.var 0)) (.tup (.cons (.nm 4) (.cons (.nm 5) .nil))) E_wrongB) (.cons (.ret (.ife T4_ .non (.op true .add (.b1 .len (.var 0)) (.int 1)))) .nil))
def optN : Option Nat → D
  | none => .non
  | some n => .int (n : Nat)
section
variable {sps : List DSp} {h : PH} {xq : XQ} {a0 a4 : Option D} {d l c : Nat} {s : Bool} {K : Bool → PH → Prop}
abbrev wr (a0 a4 : Option D) (d l : Nat) (s : Bool) (c : Nat) : Rho := [a0, some (.int (d : Nat)), some (.int (l : Nat)), some (.bl s), a4, some (.str [c])]
theorem t1_ok (k : K (decide (c ∈ lets) && decide (l < 8) && !s) h) : rdT_ sps T1_ (wr a0 a4 d l s c) h xq K := by
  by_cases h1 : c ∈ lets
  · by_cases h2 : l < 8
    · have h2' : (l : Int) < 8 := by omega
      simp only [h1, h2, decide_true, Bool.true_and] at k
      simpa [T1_, h1, h2'] using k
    · have h2' : ¬ ((l : Int) < 8) := by omega
      simp only [h1, h2, decide_true, decide_false, Bool.true_and, Bool.false_and] at k
      simpa [T1_, h1, h2'] using k
  · simp only [h1, decide_false, Bool.false_and] at k
    simpa [T1_, h1] using k
theorem t2_ok (k : K (decide (c = 40) && decide (0 < l)) h) : rdT_ sps T2_ (wr a0 a4 d l s c) h xq K := by
  have e : decide ((0 : Int) < (l : Int)) = decide (0 < l) := decide_eq_decide.mpr (by omega)
  by_cases h1 : c = 40
  · simp only [h1, decide_true, Bool.true_and] at k
    simp [T2_, h1]
    simpa [e] using k
  · simp only [h1, decide_false, Bool.false_and] at k
    simpa [T2_, h1] using k
theorem t3_ok (x : Nat) (k : K (decide (c = x) && (decide (0 < d) && (decide (0 < l) || s))) h) : rdT_ sps (T3_ x) (wr a0 a4 d l s c) h xq K := by
  by_cases h1 : c = x
  · by_cases h2 : 0 < d
    · have h2' : (0 : Int) < (d : Int) := by omega
      by_cases h3 : 0 < l
      · have h3' : (0 : Int) < (l : Int) := by omega
        simp only [h1, h2, h3, decide_true, Bool.true_and, Bool.true_or] at k
        simpa [T3_, h1, h2, h3] using k
      · have h3' : ¬ ((0 : Int) < (l : Int)) := by omega
        simp only [h1, h2, h3, decide_true, decide_false, Bool.true_and, Bool.false_or] at k
        simpa [T3_, h1, h2, h3] using k
    · have h2' : ¬ ((0 : Int) < (d : Int)) := by omega
      simp only [h1, h2, decide_true, decide_false, Bool.true_and, Bool.false_and] at k
      simpa [T3_, h1, h2] using k
  · simp only [h1, decide_false, Bool.false_and] at k
    simpa [T3_, h1] using k
end
/-- signs, as texts -/
abbrev chD (c : Nat) : D := .str [c]
def spWrong : DSp := fun ds h _ Q => ∃ t : List Nat, ds = [.str t] ∧ t.length ≤ 100000 ∧ Q (optN (lw 0 0 false 0 t)) h
theorem b_wrong (sps : List DSp) (ds h xq Q) (q : spWrong ds h xq Q) : body sps E_wrong 6 ds h xq Q := by
  obtain ⟨t, rfl, hl, hQ⟩ := q
  have en : pairsD (natsD t.length) (t.map fun c => D.str [c]) = enumD 0 (t.map chD) := by
    have := pairs_enum0 (t.map chD)
    rwa [List.length_map] at this
  simp [body, E_wrong, startD]
  refine ⟨by decide, ?_⟩
  rw [en]
  refine forLoop_inv (fun l ρ h' => h' = h ∧ ∃ (d le i : Nat) (s : Bool) (r : List Nat) (a4 a5 : Option D), l = enumD i (r.map chD) ∧ ρ = [some (.str t), some (.int (d : Nat)), some (.int (le : Nat)), some (.bl s), a4, a5] ∧ i + r.length = t.length ∧ Q (optN (lw d le s i r)) h) (fun _ _ _ _ => trivial) ?_ ?_ _ _ _ ⟨rfl, 0, 0, 0, false, t, none, none, rfl, rfl, by simp, hQ⟩
  · rintro v l ρ h' ⟨rfl, d, le, i, s, r, a4, a5, el, rfl, hi, hq⟩
    cases r with
    | nil => simp [enumD] at el
    | cons c r =>
      simp only [List.map_cons, enumD, List.cons.injEq] at el
      obtain ⟨rfl, rfl⟩ := el
      simp only [List.length_cons] at hi
      refine ⟨wr (some (.str t)) (some (.int (i : Nat))) d le s c, by simp, fun N hN => ?_⟩
      simp only [lw] at hq
      simp only [E_wrongB, rdS_cons, rdS_ife, rdS_nil]
      refine t1_ok ?_
      by_cases g1 : c ∈ lets ∧ le < 8 ∧ s = false
      · rw [if_pos g1] at hq
        have e1 : (decide (c ∈ lets) && decide (le < 8) && !s) = true := by simp [g1.1, g1.2.1, g1.2.2]
        rw [e1]
        simp
        exact hN _ _ ⟨rfl, d, le + 1, i + 1, s, r, some (.int (i : Nat)), some (.str [c]), rfl, by simp, by omega, hq⟩
      · rw [if_neg g1] at hq
        have e1 : (decide (c ∈ lets) && decide (le < 8) && !s) = false := by
          cases e : (decide (c ∈ lets) && decide (le < 8) && !s) with
          | false => rfl
          | true =>
            exfalso
            apply g1
            simpa [and_assoc] using e
        rw [e1]
        dsimp only
        refine t2_ok ?_
        by_cases g2 : c = 40 ∧ 0 < le
        · rw [if_pos g2] at hq
          have e2 : (decide (c = 40) && decide (0 < le)) = true := by simp [g2.1, g2.2]
          rw [e2]
          simp
          exact hN _ _ ⟨rfl, d + 1, 0, i + 1, s, r, some (.int (i : Nat)), some (.str [c]), rfl, by simp, by omega, hq⟩
        · rw [if_neg g2] at hq
          have e2 : (decide (c = 40) && decide (0 < le)) = false := by
            cases e : (decide (c = 40) && decide (0 < le)) with
            | false => rfl
            | true => exact absurd (by simpa using e) g2
          rw [e2]
          dsimp only
          refine t3_ok 44 ?_
          by_cases g3 : c = 44 ∧ 0 < d ∧ (0 < le ∨ s = true)
          · rw [if_pos g3] at hq
            have e3 : (decide (c = 44) && (decide (0 < d) && (decide (0 < le) || s))) = true := by simpa using g3
            rw [e3]
            simp
            refine ⟨by decide, ?_⟩
            exact hN _ _ ⟨rfl, d, 0, i + 1, false, r, some (.int (i : Nat)), some (.str [c]), rfl, by simp, by omega, hq⟩
          · rw [if_neg g3] at hq
            have e3 : (decide (c = 44) && (decide (0 < d) && (decide (0 < le) || s))) = false := by
              cases e : (decide (c = 44) && (decide (0 < d) && (decide (0 < le) || s))) with
              | false => rfl
              | true => exact absurd (by simpa using e) g3
            rw [e3]
            dsimp only
            refine t3_ok 41 ?_
            by_cases g4 : c = 41 ∧ 0 < d ∧ (0 < le ∨ s = true)
            · rw [if_pos g4] at hq
              have e4 : (decide (c = 41) && (decide (0 < d) && (decide (0 < le) || s))) = true := by simpa using g4
              rw [e4]
              simp
              exact hN _ _ ⟨rfl, d - 1, 0, i + 1, true, r, some (.int (i : Nat)), some (.str [c]), rfl, by simp; omega, by omega, hq⟩
            · rw [if_neg g4] at hq
              have e4 : (decide (c = 41) && (decide (0 < d) && (decide (0 < le) || s))) = false := by
                cases e : (decide (c = 41) && (decide (0 < d) && (decide (0 < le) || s))) with
                | false => rfl
                | true => exact absurd (by simpa using e) g4
              rw [e4]
              simp
              simpa [optN] using hq
  · rintro ρ h' ⟨rfl, d, le, i, s, r, a4, a5, el, rfl, hi, hq⟩
    cases r with
    | cons c r => simp only [List.map_cons, enumD] at el; cases el
    | nil =>
      simp only [List.length_nil, Nat.add_zero] at hi
      subst hi
      simp only [lw] at hq
      have ed : decide ((d : Int) = 0) = decide (d = 0) := decide_eq_decide.mpr (by omega)
      have el : decide ((0 : Int) < (le : Int)) = decide (0 < le) := decide_eq_decide.mpr (by omega)
      by_cases h1 : d = 0
      · subst h1
        by_cases h2 : 0 < le
        · rw [if_pos ⟨rfl, .inl h2⟩] at hq
          simp [T4_, h2]
          simpa [optN] using hq
        · cases s with
          | true =>
            rw [if_pos ⟨rfl, .inr rfl⟩] at hq
            simp [T4_, h2]
            simpa [optN] using hq
          | false =>
            rw [if_neg (by simp [h2])] at hq
            simp [T4_, h2, b1D]
            refine ⟨by rw [sz]; omega, ?_⟩
            simpa [optN] using hq
      · rw [if_neg (by simp [h1])] at hq
        simp [T4_, h1, b1D]
        refine ⟨by rw [sz]; omega, ?_⟩
        simpa [optN] using hq
/-! ### how great, how deep -/
def E_fitsB : S := .cons (.set (.nm 1) (.op true .sub (.op true .add (.var 1) (.b1 .int (.cmp .eq (.var 3) (.str [40])))) (.b1 .int (.cmp .eq (.var 3) (.str [41]))))) (.cons (.set (.nm 2) (.b2 .max (.var 2) (.var 1))) .nil)
def E_fits : S := .cons (.set (.tup (.cons (.nm 1) (.cons (.nm 2) .nil))) (.tup (.cons (.int 1) (.cons (.int 1) .nil)))) (.cons (.for_ (.itL (.var 0)) (.nm 3) E_fitsB) (.cons (.ret (.land (.cons (.cmp .lt (.var 2) (.int 9)) (.cons (.cmp .lt (.op true .add (.mth .scount (.var 0) (.cons (.str [40]) .nil)) (.mth .scount (.var 0) (.cons (.str [44]) .nil))) (.int 60)) .nil)))) .nil))
def spFits : DSp := fun ds h _ Q => ∃ t : List Nat, ds = [.str t] ∧ t.length ≤ 100000 ∧ Q (.bl (fits t)) h
theorem b_fits (sps : List DSp) (ds h xq Q) (q : spFits ds h xq Q) : body sps E_fits 4 ds h xq Q := by
  obtain ⟨t, rfl, hl, hQ⟩ := q
  simp [body, E_fits, startD]
  refine ⟨by decide, ?_⟩
  refine forLoop_inv (fun l ρ h' => h' = h ∧ ∃ (r : List Nat) (d m : Int) (a3 : Option D), l = r.map chD ∧ ρ = [some (.str t), some (.int d), some (.int m), a3] ∧ mxs d m r = mxs 1 1 t) (fun _ _ _ _ => trivial) ?_ ?_ _ _ _ ⟨rfl, t, 1, 1, none, rfl, rfl, rfl⟩
  · rintro v l ρ h' ⟨rfl, r, d, m, a3, el, rfl, hq⟩
    cases r with
    | nil => cases el
    | cons c r =>
      simp only [List.map_cons, List.cons.injEq] at el
      obtain ⟨rfl, rfl⟩ := el
      refine ⟨_, asg_nm, fun N hN => ?_⟩
      simp only [mxs] at hq
      have e1 : d + (if c = 40 then 1 else 0) - (if c = 41 then 1 else 0) = dst d c := rfl
      simp [E_fitsB, b1D, b2D]
      refine hN _ _ ⟨rfl, r, dst d c, _, some (.str [c]), rfl, ?_, hq⟩
      simp [dst]
  · rintro ρ h' ⟨rfl, r, d, m, a3, el, rfl, hq⟩
    cases r with
    | cons c r => cases el
    | nil =>
      simp only [mxs] at hq
      subst hq
      have ec : decide (((cnt 40 t : Nat) : Int) + ((cnt 44 t : Nat) : Int) < 60) = decide (cnt 40 t + cnt 44 t < 60) := decide_eq_decide.mpr (by omega)
      unfold fits at hQ
      by_cases h9 : mxs 1 1 t < 9
      · simp [h9, tyB, isStr, mthD, count_one]
        simp only [h9, decide_true, Bool.true_and] at hQ
        simpa [ec] using hQ
      · simp only [h9, decide_false, Bool.false_and] at hQ
        simpa [h9] using hQ
end Lit
/-! A text is bent. -/
namespace Lit
open PySem PySem.Spec PyProof.Rows L2
def every : List Nat := [33, 34, 35, 36, 38, 39, 40, 41, 42, 43, 44, 45, 46, 47, 48, 49, 50, 51, 52, 53, 54, 55, 56, 57, 58, 59, 60, 61, 62, 63, 64, 65, 66, 67, 68, 69, 70, 71, 72, 73, 74, 75, 76, 77, 78, 79, 80, 81, 82, 83, 84, 85, 86, 87, 88, 89, 90, 91, 92, 93, 94, 95, 96, 97, 98, 99, 100, 101, 102, 103, 104, 105, 106, 107, 108, 109, 110, 111, 112, 113, 114, 115, 116, 117, 118, 119, 120, 121, 122, 123, 124, 125, 126, 32, 10]
def E_bent (iD : Nat) : S := .cons (.set (.nm 2) (.call iD (.cons (.var 0) (.cons (.op true .add (.b1 .len (.var 1)) (.int 1)) .nil)))) (.cons (.set (.nm 3) (.str every)) (.cons (.set (.nm 4) (.ix (.var 3) (.call iD (.cons (.var 0) (.cons (.b1 .len (.var 3)) .nil))))) (.cons (.set (.nm 4) (.ix (.lst true (.cons (.str [40]) (.cons (.str [41]) (.cons (.str [44]) (.cons (.str [97]) (.cons (.str []) (.cons (.str [41, 40]) (.cons (.str [97, 98, 99, 100, 101, 102, 103, 104, 105]) (.cons (.var 4) (.cons (.var 4) (.cons (.var 4) .nil))))))))))) (.call iD (.cons (.var 0) (.cons (.int 10) .nil))))) (.cons (.set (.nm 5) (.call iD (.cons (.var 0) (.cons (.int 4) .nil)))) (.cons (.ife (.cmp .eq (.var 5) (.int 3)) (.cons (.ret (.op true .add (.sl true (.var 1) .nil (.var 2)) (.sl true (.var 1) (.b2 .max (.int 0) (.op true .sub (.var 2) (.int 1))) .nil))) .nil) .nil) (.cons (.ret (.op true .add (.op true .add (.sl true (.var 1) .nil (.var 2)) (.var 4)) (.sl true (.var 1) (.op true .add (.var 2) (.ix (.lst true (.cons (.int 0) (.cons (.int 1) (.cons (.int 1) .nil)))) (.var 5))) .nil))) .nil))))))
theorem cut_len {α : Type} (l : List α) (lo hi : Option Int) : (cutL l lo hi).length ≤ l.length := by
  unfold cutL
  rw [List.length_take, List.length_drop]
  omega
def spBent : DSp := fun ds h _ Q => ∃ (p : Addr) (t : List Nat) (n : Int) (w : List (D × D)), ds = [.ref p, .str t] ∧ t.length ≤ 10000 ∧ n < 2 ^ 39 ∧ StR w n h p ∧ ∀ (t' : List Nat) (h' : PH), t'.length ≤ 2 * t.length + 10 → StR w (n + 10) h' p → ExtBut p h h' → Q (.str t') h'
theorem b_bent (sps : List DSp) (iD : Nat) (eD : sps[iD]? = some spDigit) (ds h xq Q) (q : spBent ds h xq Q) : body sps (E_bent iD) 6 ds h xq Q := by
  obtain ⟨p, t, n, w, rfl, hl, hn, st, hQ⟩ := q
  have el : every.length = 95 := by decide
  simp [body, E_bent, startD, b1D]
  refine ⟨by rw [sz]; omega, ?_⟩
  refine spAt_ok eD ⟨p, _, n, _, rfl, by omega, by omega, by omega, st, fun at_ h1 a0 a1 st1 x1 => ?_⟩
  simp [b1D]
  refine ⟨by rw [sz, el]; decide, ?_⟩
  refine spAt_ok eD ⟨p, _, n + 1, _, rfl, by rw [el]; decide, by rw [el]; decide, by omega, st1, fun r h2 r0 r1 st2 x2 => ?_⟩
  obtain ⟨c, ec, _⟩ := atI_in (l := every) r0 (by simpa using r1)
  simp [ixD, ec]
  refine ⟨by rw [sz, el]; decide, by decide, ?_⟩
  refine spAt_ok eD ⟨p, _, n + 2, _, rfl, by decide, by decide, by omega, by simpa [Int.add_assoc] using st2, fun r3 h3 r30 r31 st3 x3 => ?_⟩
  obtain ⟨v, ev, mv⟩ := atI_in (l := [D.str [40], .str [41], .str [44], .str [97], .str [], .str [41, 40], .str [97, 98, 99, 100, 101, 102, 103, 104, 105], .str [c], .str [c], .str [c]]) r30 (by simpa using r31)
  obtain ⟨sg, es, ls⟩ : ∃ sg : List Nat, v = .str sg ∧ sg.length ≤ 9 := by
    simp only [List.mem_cons, List.not_mem_nil, or_false] at mv
    rcases mv with rfl | rfl | rfl | rfl | rfl | rfl | rfl | rfl | rfl | rfl <;> exact ⟨_, rfl, by simp⟩
  subst es
  simp [ixD, ev]
  refine spAt_ok eD ⟨p, _, n + 3, _, rfl, by decide, by decide, by omega, by simpa [Int.add_assoc] using st3, fun r4 h4 r40 r41 st4 x4 => ?_⟩
  have x14 := ((x1.trans x2).trans x3).trans x4
  have st4' : StR w (n + 10) h4 p := st4.up (by omega)
  by_cases h3 : r4 = 3
  · have c1 := cut_len t none (some at_)
    have c2 : ∀ z : Int, (cutL t (some z) none).length ≤ t.length := fun z => cut_len t _ _
    simp [h3, Lit.sl_str, b2D]
    have c3 := cut_len t (some (if 1 < at_ then at_ - 1 else 0)) none
    refine ⟨by rw [sz]; omega, by rw [sz]; omega, ?_⟩
    exact hQ _ h4 (by rw [List.length_append]; omega) st4' x14
  · have ix4 : ∃ k : Int, atI [D.int 0, .int 1, .int 1] r4 = some (.int k) := by
      obtain ⟨u, eu, mu⟩ := atI_in (l := [D.int 0, .int 1, .int 1]) r40 (by simp; omega)
      simp only [List.mem_cons, List.not_mem_nil, or_false] at mu
      rcases mu with rfl | rfl | rfl <;> exact ⟨_, eu⟩
    obtain ⟨k4, e4⟩ := ix4
    have c1 := cut_len t none (some at_)
    have c2 := cut_len t (some (at_ + k4)) none
    simp [h3, Lit.sl_str, ixD, e4]
    refine ⟨by rw [sz]; omega, by rw [sz]; omega, by decide, by rw [sz]; omega, by rw [sz]; omega, ?_⟩
    exact hQ _ h4 (by rw [List.length_append, List.length_append]; omega) st4' x14
end Lit
/-! The law's asking of read_tree. -/
namespace Lit
open PySem PySem.Spec PyProof.Rows L2
def E_rightB (iR iK iF iP : Nat) (xs : List Str) : S := .cons (.set (.nm 3) .non) (.cons (.set (.nm 4) .non) (.cons (.try1 (.cons (.set (.nm 4) (.call iR (.cons (.var 0) .nil))) .nil) xs "MarkError" (some 6) [(3, .exn)]) (.cons (.set (.nm 5) (.ife (.cmp .is (.var 3) .non) .non (.call iK (.cons (.var 3) .nil)))) (.cons (.ife (.cmp .isnot (.var 1) .non) (.cons (.ife (.lor (.cons (.cmp .ne (.var 5) (.lst true (.cons (.str [116, 101, 120, 116]) .nil))) (.cons (.cmp .ne (.xfld (.var 3) "at" xs) (.var 1)) (.cons (.isi (.xfld (.var 3) "at" xs) .bool) .nil)))) (.cons (.ret (.fgt (.bl false))) .nil) .nil) .nil) (.cons (.ife (.lnot (.call iF (.cons (.var 0) .nil))) (.cons (.ife (.cmp .ne (.var 5) (.lst true (.cons (.str [116, 114, 101, 101]) .nil))) (.cons (.ret (.fgt (.bl false))) .nil) .nil) .nil) (.cons (.ife (.lor (.cons (.cmp .isnot (.var 5) .non) (.cons (.cmp .ne (.call iP (.cons (.var 4) .nil)) (.var 0)) .nil))) (.cons (.ret (.fgt (.bl false))) .nil) .nil) .nil)) .nil)) .nil))))
def E_right (iW iR iK iF iP : Nat) (xs : List Str) : S := .cons (.set (.nm 1) (.ife (.lnot (.isi (.var 0) .str)) (.int 0) (.call iW (.cons (.var 0) .nil)))) (.cons (.for_ (.itR1 (.int 2)) (.nm 2) (E_rightB iR iK iF iP xs)) (.cons (.ret (.fgt (.bl true))) .nil))
def dueD (d : D) : D := match isStrD d with
  | some t => optN (lw 0 0 false 0 t)
  | none => .int 0
theorem kinds_text : kindsOf "BadText" = [[116, 101, 120, 116]] := by decide +kernel
theorem kinds_tree6 : kindsOf "BadTree" = [[116, 114, 101, 101]] := by decide +kernel
section
variable {sps : List DSp} {iW iR iK iF iP : Nat} {xs : List Str}
theorem b_rightB (hx1 : ("BadText" : Str) ∈ xs) (hx2 : ("BadTree" : Str) ∈ xs) (eR : sps[iR]? = some spReadT) (eK : sps[iK]? = some (spKinds xs)) (eF : sps[iF]? = some spFits) (eP : sps[iP]? = some (spPartx 8)) {d : D} {h : PH} {Z : DEnds} {a2 a3 a4 a5 a6 : Option D} (id_ : isData d h = true) (hl : ∀ t, isStrD d = some t → t.length ≤ 100000)
    (k : ∀ (h' : PH) (a3 a4 a5 : Option D), Ext h h' → Z.nx [some d, some (dueD d), a2, a3, a4, a5, none] h') (k2 : ∀ (h' : PH) (a3 a4 a5 : Option D), Ext h h' → Z.nx [some d, some (dueD d), a2, a3, a4, a5, a6] h') : rdS sps (E_rightB iR iK iF iP xs) Z [some d, some (dueD d), a2, a3, a4, a5, a6] h := by
  have g_text : Gd (.rol [.str [116, 101, 120, 116]]) := ⟨by decide, by decide, by decide⟩
  have g_tree : Gd (.rol [.str [116, 114, 101, 101]]) := ⟨by decide, by decide, by decide⟩
  simp [E_rightB]
  refine spAt_ok eR ⟨d, rfl, id_, ?_⟩
  cases ed : isStrD d with
  | none =>
    have hd : dueD d = .int ((0 : Nat) : Int) := by unfold dueD; rw [ed]; rfl
    simp only []
    refine try_hit hx1 (show subE "BadText" "MarkError" = true by decide +kernel) fun p h2 n2 f2 x2 => ?_
    have f2' : h2 p = some (.exc "BadText" [("at", .int (0 : Nat))]) := f2
    simp [suite, svD, noneD]
    refine spAt_ok eK ⟨p, _, _, rfl, f2', hx1, ?_⟩
    dsimp only
    rw [kinds_text]
    simp [hd, f2', hx1, isData, isiD, cmp_neG g_text g_text]
    refine ⟨by decide, ?_⟩
    have := k h2 (some (.ref p)) (some .non) (some (.rol [.str [116, 101, 120, 116]])) x2
    rw [hd] at this
    exact this
  | some t =>
    have hl2 := hl t ed
    have hlw := lw_all t
    have hd0 : dueD d = optN (lw 0 0 false 0 t) := by unfold dueD; rw [ed]
    refine ⟨hl2, ?_⟩
    cases ea : Rd.all t with
    | bad e =>
      rw [ea] at hlw
      have hd : dueD d = .int (e : Nat) := by rw [hd0, hlw]; rfl
      simp only []
      refine try_hit hx1 (show subE "BadText" "MarkError" = true by decide +kernel) fun p h2 n2 f2 x2 => ?_
      have f2' : h2 p = some (.exc "BadText" [("at", .int (e : Nat))]) := f2
      simp [suite, svD, noneD]
      refine spAt_ok eK ⟨p, _, _, rfl, f2', hx1, ?_⟩
      dsimp only
      rw [kinds_text]
      simp [hd, f2', hx1, isData, isiD, cmp_neG g_text g_text]
      refine ⟨by decide, ?_⟩
      have := k h2 (some (.ref p)) (some .non) (some (.rol [.str [116, 101, 120, 116]])) x2
      rw [hd] at this
      exact this
    | ok u =>
      rw [ea] at hlw
      have hd : dueD d = .non := by rw [hd0, hlw]; rfl
      have et := all_txt' ea
      have wu := all_wok (cs := ["Reader"]) (by simp) ea
      have ds : d = .str t := by
        cases d <;> simp [isStrD] at ed
        rw [ed]
      refine ⟨fun hT => ?_, fun hT => ?_⟩
      · obtain ⟨v, ev, gv⟩ := isT_dec hT
        cases enc_inj _ _ ev
        have hF : fits t = true := by rw [et, fits_is wu]; exact hT
        simp [hd, noneD]
        refine spAt_ok eF ⟨t, by rw [ds], hl2, ?_⟩
        rw [hF]
        simp [noneD]
        refine spAt_ok eP ⟨u, rfl, gv.d, gv.d, gv.w, by have := gv.s; omega, ?_⟩
        rw [← et, ds]
        simp
        have := k2 h (some .non) (some (enc u)) (some .non) .refl
        rw [hd, ds] at this
        exact this
      · have hF : fits t = false := by rw [et, fits_is wu]; exact hT
        refine try_hit hx2 (show subE "BadTree" "MarkError" = true by decide +kernel) fun p h2 n2 f2 x2 => ?_
        have f2' : h2 p = some (.exc "BadTree" []) := f2
        simp [suite, svD, noneD]
        refine spAt_ok eK ⟨p, _, _, rfl, f2', hx2, ?_⟩
        dsimp only
        rw [kinds_tree6]
        simp [hd, noneD]
        refine spAt_ok eF ⟨t, by rw [ds], hl2, ?_⟩
        rw [hF]
        simp [cmp_neG g_tree g_tree]
        refine ⟨by decide, ?_⟩
        have := k h2 (some (.ref p)) (some .non) (some (.rol [.str [116, 114, 101, 101]])) x2
        rw [hd] at this
        exact this
def spRight6 : DSp := fun ds h _ Q => ∃ d : D, ds = [d] ∧ isData d h = true ∧ (∀ t, isStrD d = some t → t.length ≤ 100000) ∧ Q (.bl true) h
theorem b_right6 (hx1 : ("BadText" : Str) ∈ xs) (hx2 : ("BadTree" : Str) ∈ xs) (eW : sps[iW]? = some spWrong) (eR : sps[iR]? = some spReadT) (eK : sps[iK]? = some (spKinds xs)) (eF : sps[iF]? = some spFits) (eP : sps[iP]? = some (spPartx 8)) (ds h xq Q) (q : spRight6 ds h xq Q) : body sps (E_right iW iR iK iF iP xs) 7 ds h xq Q := by
  obtain ⟨d, rfl, id_, hl, hQ⟩ := q
  have go : ∀ Z : DEnds, (∀ h' a2 a3 a4 a5 a6, Ext h h' → Z.nx [some d, some (dueD d), a2, a3, a4, a5, a6] h') → forLoop (.nm 2) (rdS sps (E_rightB iR iK iF iP xs)) (fun _ => True) (natsD 2) Z [some d, some (dueD d), none, none, none, none, none] h := fun Z hz => by
    refine forLoop_inv (fun l ρ h' => Ext h h' ∧ ∃ a2 a3 a4 a5 a6, ρ = [some d, some (dueD d), a2, a3, a4, a5, a6]) (fun _ _ _ _ => trivial) ?_ ?_ _ _ _ ⟨.refl, _, _, _, _, _, rfl⟩
    · rintro v l ρ h' ⟨hx, a2, a3, a4, a5, a6, rfl⟩
      refine ⟨_, asg_nm, fun N hN => ?_⟩
      exact b_rightB hx1 hx2 eR eK eF eP (isData_ext hx id_) hl (fun h'' _ _ _ x => hN _ _ ⟨hx.trans x, _, _, _, _, _, rfl⟩) fun h'' _ _ _ x => hN _ _ ⟨hx.trans x, _, _, _, _, _, rfl⟩
    · rintro ρ h' ⟨hx, a2, a3, a4, a5, a6, rfl⟩
      exact hz _ _ _ _ _ _ hx
  simp [body, E_right, startD, id_, isi_str id_]
  cases ed : isStrD d with
  | none =>
    have hd : dueD d = .int 0 := by unfold dueD; rw [ed]
    simp
    rw [← hd]
    refine go _ fun h' a2 a3 a4 a5 a6 x => ?_
    simp
    exact ⟨h, x, hQ⟩
  | some t =>
    have ds : d = .str t := by
      cases d <;> simp [isStrD] at ed
      rw [ed]
    have hd : dueD d = optN (lw 0 0 false 0 t) := by unfold dueD; rw [ed]
    simp
    refine spAt_ok eW ⟨t, by rw [ds], hl t ed, ?_⟩
    rw [← hd]
    refine go _ fun h' a2 a3 a4 a5 a6 x => ?_
    simp
    exact ⟨h, x, hQ⟩
end
end Lit
namespace K07
open PySem PySem.Spec PyProof.Rows L2 Lit
def top (i : Nat) : Stmt := PySem.Challenge.pw_marksthrough_k07_refusals_by_hand.main.body.getD i (.Pass ⟨0, 0, 0, 0⟩)
def cm (i j : Nat) : Stmt := (clsBody (top i)).getD j (.Pass ⟨0, 0, 0, 0⟩)
def x_all : List Str := ["MarkError", "BadText", "BadRow", "BadTree", "BadChange", "OutOfPlace", "NoMake", "TooGreat", "BadPaper", "BadRows", "BadForm", "BadMakes", "NoBase"]
def cl_all : List Str := ["Reader"]
def fl_all : List Str := ["text", "spot", "words", "inner", "is_bare"]
-- _law_mixed(cell, k)  slots 0 cell, 1 k
def e__law_mixed : S := .cons (.set (.nm 0) (.op true .add (.op true .add (.op true .mod (.var 0) (.int 1000000007)) (.op true .mul (.int 7919) (.var 1))) (.int 13))) (.cons (.ret (.op true .mod (.op true .mul (.op true .mod (.op true .mul (.var 0) (.var 0)) (.int 1000000007)) (.int 48271)) (.int 2147483647))) .nil)
def n__law_mixed : List Str := ["cell", "k"]
def b__law_mixed : List Str := []
def x__law_mixed : List Str := []
def cl__law_mixed : List Str := []
def fl__law_mixed : List Str := []
def i__law_mixed : List (Str × Int) := []
def s__law_mixed : List (Str × List Nat) := []
def gt__law_mixed : List (Str × List (List Nat)) := []
def gd__law_mixed : List (Str × List (List Nat × List (List Nat))) := []
theorem c__law_mixed : chkSs ⟨n__law_mixed, [], i__law_mixed, s__law_mixed, b__law_mixed, x__law_mixed, cl__law_mixed, fl__law_mixed, gt__law_mixed, gd__law_mixed⟩ (defScope (top 35)) e__law_mixed (defBody (top 35)) = true := by decide +kernel
theorem sc__law_mixed : C8.scC n__law_mixed ["cell", "k"] (defScope (top 35)) = true := by decide +kernel
-- _law_kinds(error)  slots 0 error, 1 kinds, 2 name, 3 fits
def e__law_kinds : S := .cons (.set (.nm 1) (.lst false (.cons (.tup (.cons (.str [116, 101, 120, 116]) (.cons (.isx (.var 0) "BadText" x_all) .nil))) (.cons (.tup (.cons (.str [114, 111, 119]) (.cons (.isx (.var 0) "BadRow" x_all) .nil))) .nil)))) (.cons (.set (.nm 1) (.op false .add (.var 1) (.lst true (.cons (.tup (.cons (.str [116, 114, 101, 101]) (.cons (.isx (.var 0) "BadTree" x_all) .nil))) (.cons (.tup (.cons (.str [99, 104, 97, 110, 103, 101]) (.cons (.isx (.var 0) "BadChange" x_all) .nil))) .nil))))) (.cons (.set (.nm 1) (.op false .add (.var 1) (.lst true (.cons (.tup (.cons (.str [112, 108, 97, 99, 101]) (.cons (.isx (.var 0) "OutOfPlace" x_all) .nil))) (.cons (.tup (.cons (.str [109, 97, 107, 101]) (.cons (.isx (.var 0) "NoMake" x_all) .nil))) .nil))))) (.cons (.set (.nm 1) (.op false .add (.var 1) (.lst true (.cons (.tup (.cons (.str [103, 114, 101, 97, 116]) (.cons (.isx (.var 0) "TooGreat" x_all) .nil))) (.cons (.tup (.cons (.str [112, 97, 112, 101, 114]) (.cons (.isx (.var 0) "BadPaper" x_all) .nil))) .nil))))) (.cons (.set (.nm 1) (.op false .add (.var 1) (.lst true (.cons (.tup (.cons (.str [114, 111, 119, 115]) (.cons (.isx (.var 0) "BadRows" x_all) .nil))) (.cons (.tup (.cons (.str [102, 111, 114, 109]) (.cons (.isx (.var 0) "BadForm" x_all) .nil))) .nil))))) (.cons (.set (.nm 1) (.op false .add (.var 1) (.lst true (.cons (.tup (.cons (.str [109, 97, 107, 101, 115]) (.cons (.isx (.var 0) "BadMakes" x_all) .nil))) (.cons (.tup (.cons (.str [98, 97, 115, 101]) (.cons (.isx (.var 0) "NoBase" x_all) .nil))) .nil))))) (.cons (.expr (.mth .append (.var 1) (.cons (.tup (.cons (.str [111, 116, 104, 101, 114]) (.cons (.lor (.cons (.lnot (.isx (.var 0) "ValueError" x_all)) (.cons (.lnot (.isx (.var 0) "MarkError" x_all)) .nil))) .nil))) .nil))) (.cons (.ret (.fgt (.comp true (.itL (.var 1)) (.tup (.cons (.nm 2) (.cons (.nm 3) .nil))) [2, 3] (.cons (.var 3) .nil) (.var 2)))) .nil)))))))
def n__law_kinds : List Str := ["error", "kinds", "name", "fits"]
def b__law_kinds : List Str := ["ValueError", "isinstance"]
def x__law_kinds : List Str := x_all
def cl__law_kinds : List Str := []
def fl__law_kinds : List Str := []
def i__law_kinds : List (Str × Int) := []
def s__law_kinds : List (Str × List Nat) := []
def gt__law_kinds : List (Str × List (List Nat)) := []
def gd__law_kinds : List (Str × List (List Nat × List (List Nat))) := []
theorem c__law_kinds : chkSs ⟨n__law_kinds, [("_law_mixed", none)], i__law_kinds, s__law_kinds, b__law_kinds, x__law_kinds, cl__law_kinds, fl__law_kinds, gt__law_kinds, gd__law_kinds⟩ (defScope (top 36)) e__law_kinds (defBody (top 36)) = true := by decide +kernel
theorem sc__law_kinds : C8.scC n__law_kinds ["error"] (defScope (top 36)) = true := by decide +kernel
-- Reader.need(self, is_good)  slots 0 self, 1 is_good
def e_Reader_need : S := .cons (.ife (.lnot (.var 1)) (.cons (.raise "BadText" ["at"] (.cons (.op true .add (.fld (.var 0) "spot" cl_all) (.int 1)) .nil)) .nil) .nil) .nil
def n_Reader_need : List Str := ["self", "is_good"]
def b_Reader_need : List Str := []
def x_Reader_need : List Str := x_all
def cl_Reader_need : List Str := cl_all
def fl_Reader_need : List Str := fl_all
def i_Reader_need : List (Str × Int) := []
def s_Reader_need : List (Str × List Nat) := []
def gt_Reader_need : List (Str × List (List Nat)) := []
def gd_Reader_need : List (Str × List (List Nat × List (List Nat))) := []
theorem c_Reader_need : chkSs ⟨n_Reader_need, [("_law_mixed", none), ("_law_kinds", none)], i_Reader_need, s_Reader_need, b_Reader_need, x_Reader_need, cl_Reader_need, fl_Reader_need, gt_Reader_need, gd_Reader_need⟩ (defScope (cm 32 2)) e_Reader_need (defBody (cm 32 2)) = true := by decide +kernel
theorem sc_Reader_need : C8.scC n_Reader_need ["self", "is_good"] (defScope (cm 32 2)) = true := by decide +kernel
-- Reader.ahead(self)  slots 0 self
def e_Reader_ahead : S := .cons (.ret (.sl true (.fld (.var 0) "text" cl_all) (.fld (.var 0) "spot" cl_all) (.op true .add (.fld (.var 0) "spot" cl_all) (.int 1)))) .nil
def n_Reader_ahead : List Str := ["self"]
def b_Reader_ahead : List Str := []
def x_Reader_ahead : List Str := []
def cl_Reader_ahead : List Str := cl_all
def fl_Reader_ahead : List Str := fl_all
def i_Reader_ahead : List (Str × Int) := []
def s_Reader_ahead : List (Str × List Nat) := []
def gt_Reader_ahead : List (Str × List (List Nat)) := []
def gd_Reader_ahead : List (Str × List (List Nat × List (List Nat))) := []
theorem c_Reader_ahead : chkSs ⟨n_Reader_ahead, [("_law_mixed", none), ("_law_kinds", none), ("Reader", some "need")], i_Reader_ahead, s_Reader_ahead, b_Reader_ahead, x_Reader_ahead, cl_Reader_ahead, fl_Reader_ahead, gt_Reader_ahead, gd_Reader_ahead⟩ (defScope (cm 32 1)) e_Reader_ahead (defBody (cm 32 1)) = true := by decide +kernel
theorem sc_Reader_ahead : C8.scC n_Reader_ahead ["self"] (defScope (cm 32 1)) = true := by decide +kernel
-- Reader.begin(self)  slots 0 self, 1 start
def e_Reader_begin : S := .cons (.set (.nm 1) (.fld (.var 0) "spot" cl_all)) (.cons (.whl (.land (.cons (.cmp .lt (.op true .sub (.fld (.var 0) "spot" cl_all) (.var 1)) (.gint "MOST_LETTERS" 8)) (.cons (.cmp .ne (.meth 3 "Reader" "ahead" (.var 0) .nil) (.str [])) (.cons (.cmp .isin (.meth 3 "Reader" "ahead" (.var 0) .nil) (.gstr "LETTERS" [97, 98, 99, 100, 101, 102, 103, 104, 105, 106, 107, 108, 109, 110, 111, 112, 113, 114, 115, 116, 117, 118, 119, 120, 121, 122])) .nil)))) (.cons (.augF (.var 0) "spot" (.int 1) cl_all) .nil)) (.cons (.expr (.meth 2 "Reader" "need" (.var 0) (.cons (.cmp .gt (.fld (.var 0) "spot" cl_all) (.var 1)) .nil))) (.cons (.expr (.mth .append (.fld (.var 0) "words" cl_all) (.cons (.sl false (.fld (.var 0) "text" cl_all) (.var 1) (.fld (.var 0) "spot" cl_all)) .nil))) (.cons (.expr (.mth .append (.fld (.var 0) "inner" cl_all) (.cons (.lst false .nil) .nil))) (.cons (.setF (.var 0) "is_bare" (.bl true) cl_all) .nil)))))
def n_Reader_begin : List Str := ["self", "start"]
def b_Reader_begin : List Str := []
def x_Reader_begin : List Str := []
def cl_Reader_begin : List Str := cl_all
def fl_Reader_begin : List Str := fl_all
def i_Reader_begin : List (Str × Int) := [("MOST_LETTERS", 8)]
def s_Reader_begin : List (Str × List Nat) := [("LETTERS", [97, 98, 99, 100, 101, 102, 103, 104, 105, 106, 107, 108, 109, 110, 111, 112, 113, 114, 115, 116, 117, 118, 119, 120, 121, 122])]
def gt_Reader_begin : List (Str × List (List Nat)) := []
def gd_Reader_begin : List (Str × List (List Nat × List (List Nat))) := []
theorem c_Reader_begin : chkSs ⟨n_Reader_begin, [("_law_mixed", none), ("_law_kinds", none), ("Reader", some "need"), ("Reader", some "ahead")], i_Reader_begin, s_Reader_begin, b_Reader_begin, x_Reader_begin, cl_Reader_begin, fl_Reader_begin, gt_Reader_begin, gd_Reader_begin⟩ (defScope (cm 32 3)) e_Reader_begin (defBody (cm 32 3)) = true := by decide +kernel
theorem sc_Reader_begin : C8.scC n_Reader_begin ["self"] (defScope (cm 32 3)) = true := by decide +kernel
-- Reader.shut(self)  slots 0 self, 1 parts
def e_Reader_shut : S := .cons (.set (.nm 1) (.mth .pop (.fld (.var 0) "inner" cl_all) .nil)) (.cons (.expr (.mth .append (.ix (.fld (.var 0) "inner" cl_all) (.neg (.int 1))) (.cons (.tup (.cons (.mth .pop (.fld (.var 0) "words" cl_all) .nil) (.cons (.b1 .tuple (.var 1)) .nil))) .nil))) .nil)
def n_Reader_shut : List Str := ["self", "parts"]
def b_Reader_shut : List Str := ["tuple"]
def x_Reader_shut : List Str := []
def cl_Reader_shut : List Str := cl_all
def fl_Reader_shut : List Str := fl_all
def i_Reader_shut : List (Str × Int) := []
def s_Reader_shut : List (Str × List Nat) := []
def gt_Reader_shut : List (Str × List (List Nat)) := []
def gd_Reader_shut : List (Str × List (List Nat × List (List Nat))) := []
theorem c_Reader_shut : chkSs ⟨n_Reader_shut, [("_law_mixed", none), ("_law_kinds", none), ("Reader", some "need"), ("Reader", some "ahead"), ("Reader", some "begin")], i_Reader_shut, s_Reader_shut, b_Reader_shut, x_Reader_shut, cl_Reader_shut, fl_Reader_shut, gt_Reader_shut, gd_Reader_shut⟩ (defScope (cm 32 4)) e_Reader_shut (defBody (cm 32 4)) = true := by decide +kernel
theorem sc_Reader_shut : C8.scC n_Reader_shut ["self"] (defScope (cm 32 4)) = true := by decide +kernel
-- Reader.go_on(self)  slots 0 self, 1 sign
def e_Reader_go_on : S := .cons (.set (.nm 1) (.meth 3 "Reader" "ahead" (.var 0) .nil)) (.cons (.expr (.meth 2 "Reader" "need" (.var 0) (.cons (.lor (.cons (.land (.cons (.cmp .eq (.var 1) (.str [40])) (.cons (.fld (.var 0) "is_bare" cl_all) .nil))) (.cons (.land (.cons (.cmp .isin (.var 1) (.tup (.cons (.str [44]) (.cons (.str [41]) .nil)))) (.cons (.cmp .gt (.b1 .len (.fld (.var 0) "words" cl_all)) (.int 1)) .nil))) .nil))) .nil))) (.cons (.augF (.var 0) "spot" (.int 1) cl_all) (.cons (.ife (.cmp .ne (.var 1) (.str [40])) (.cons (.expr (.meth 5 "Reader" "shut" (.var 0) .nil)) .nil) .nil) (.cons (.ife (.cmp .eq (.var 1) (.str [41])) (.cons (.setF (.var 0) "is_bare" (.bl false) cl_all) .nil) (.cons (.expr (.meth 4 "Reader" "begin" (.var 0) .nil)) .nil)) .nil))))
def n_Reader_go_on : List Str := ["self", "sign"]
def b_Reader_go_on : List Str := ["len"]
def x_Reader_go_on : List Str := []
def cl_Reader_go_on : List Str := cl_all
def fl_Reader_go_on : List Str := fl_all
def i_Reader_go_on : List (Str × Int) := []
def s_Reader_go_on : List (Str × List Nat) := []
def gt_Reader_go_on : List (Str × List (List Nat)) := []
def gd_Reader_go_on : List (Str × List (List Nat × List (List Nat))) := []
theorem c_Reader_go_on : chkSs ⟨n_Reader_go_on, [("_law_mixed", none), ("_law_kinds", none), ("Reader", some "need"), ("Reader", some "ahead"), ("Reader", some "begin"), ("Reader", some "shut")], i_Reader_go_on, s_Reader_go_on, b_Reader_go_on, x_Reader_go_on, cl_Reader_go_on, fl_Reader_go_on, gt_Reader_go_on, gd_Reader_go_on⟩ (defScope (cm 32 5)) e_Reader_go_on (defBody (cm 32 5)) = true := by decide +kernel
theorem sc_Reader_go_on : C8.scC n_Reader_go_on ["self"] (defScope (cm 32 5)) = true := by decide +kernel
-- Reader.whole(self)  slots 0 self
def e_Reader_whole : S := .cons (.expr (.meth 4 "Reader" "begin" (.var 0) .nil)) (.cons (.whl (.cmp .ne (.meth 3 "Reader" "ahead" (.var 0) .nil) (.str [])) (.cons (.expr (.meth 6 "Reader" "go_on" (.var 0) .nil)) .nil)) (.cons (.expr (.meth 2 "Reader" "need" (.var 0) (.cons (.cmp .eq (.b1 .len (.fld (.var 0) "words" cl_all)) (.int 1)) .nil))) (.cons (.expr (.meth 5 "Reader" "shut" (.var 0) .nil)) (.cons (.ret (.ix (.ix (.fld (.var 0) "inner" cl_all) (.int 0)) (.int 0))) .nil))))
def n_Reader_whole : List Str := ["self"]
def b_Reader_whole : List Str := ["len"]
def x_Reader_whole : List Str := []
def cl_Reader_whole : List Str := cl_all
def fl_Reader_whole : List Str := fl_all
def i_Reader_whole : List (Str × Int) := []
def s_Reader_whole : List (Str × List Nat) := []
def gt_Reader_whole : List (Str × List (List Nat)) := []
def gd_Reader_whole : List (Str × List (List Nat × List (List Nat))) := []
theorem c_Reader_whole : chkSs ⟨n_Reader_whole, [("_law_mixed", none), ("_law_kinds", none), ("Reader", some "need"), ("Reader", some "ahead"), ("Reader", some "begin"), ("Reader", some "shut"), ("Reader", some "go_on")], i_Reader_whole, s_Reader_whole, b_Reader_whole, x_Reader_whole, cl_Reader_whole, fl_Reader_whole, gt_Reader_whole, gd_Reader_whole⟩ (defScope (cm 32 6)) e_Reader_whole (defBody (cm 32 6)) = true := by decide +kernel
theorem sc_Reader_whole : C8.scC n_Reader_whole ["self"] (defScope (cm 32 6)) = true := by decide +kernel
-- is_name(thing)  slots 0 thing, 1 sign
def e_is_name : S := .cons (.ife (.lor (.cons (.lnot (.isi (.var 0) .str)) (.cons (.lnot (.chain .le .le (.int 1) (.b1 .len (.var 0)) (.gint "MOST_LETTERS" 8))) .nil))) (.cons (.ret (.bl false)) .nil) .nil) (.cons (.ret (.b1 .all (.comp true (.itL (.var 0)) (.nm 1) [1] .nil (.cmp .isin (.var 1) (.gstr "LETTERS" [97, 98, 99, 100, 101, 102, 103, 104, 105, 106, 107, 108, 109, 110, 111, 112, 113, 114, 115, 116, 117, 118, 119, 120, 121, 122]))))) .nil)
def n_is_name : List Str := ["thing", "sign"]
def b_is_name : List Str := ["all", "isinstance", "len", "str"]
def x_is_name : List Str := []
def cl_is_name : List Str := []
def fl_is_name : List Str := []
def i_is_name : List (Str × Int) := [("MOST_LETTERS", 8)]
def s_is_name : List (Str × List Nat) := [("LETTERS", [97, 98, 99, 100, 101, 102, 103, 104, 105, 106, 107, 108, 109, 110, 111, 112, 113, 114, 115, 116, 117, 118, 119, 120, 121, 122])]
def gt_is_name : List (Str × List (List Nat)) := []
def gd_is_name : List (Str × List (List Nat × List (List Nat))) := []
theorem c_is_name : chkSs ⟨n_is_name, [("_law_mixed", none), ("_law_kinds", none), ("Reader", some "need"), ("Reader", some "ahead"), ("Reader", some "begin"), ("Reader", some "shut"), ("Reader", some "go_on"), ("Reader", some "whole")], i_is_name, s_is_name, b_is_name, x_is_name, cl_is_name, fl_is_name, gt_is_name, gd_is_name⟩ (defScope (top 19)) e_is_name (defBody (top 19)) = true := by decide +kernel
theorem sc_is_name : C8.scC n_is_name ["thing"] (defScope (top 19)) = true := by decide +kernel
-- parts_looked(thing, deep)  slots 0 thing, 1 deep, 2 found, 3 part, 4 more
def e_parts_looked : S := .cons (.ife (.lor (.cons (.cmp .eq (.var 1) (.int 0)) (.cons (.lnot (.isi (.var 0) .tuple)) (.cons (.cmp .ne (.b1 .len (.var 0)) (.int 2)) (.cons (.lnot (.call 8 (.cons (.ix (.var 0) (.int 0)) .nil))) .nil))))) (.cons (.ret (.int 0)) .nil) .nil) (.cons (.ife (.lnot (.isi (.ix (.var 0) (.int 1)) .tuple)) (.cons (.ret (.int 0)) .nil) .nil) (.cons (.set (.nm 2) (.int 1)) (.cons (.for_ (.itL (.ix (.var 0) (.int 1))) (.nm 3) (.cons (.set (.nm 4) (.call 9 (.cons (.var 3) (.cons (.op true .sub (.var 1) (.int 1)) .nil)))) (.cons (.ife (.cmp .eq (.var 4) (.int 0)) (.cons (.ret (.int 0)) .nil) .nil) (.cons (.set (.nm 2) (.op true .add (.var 2) (.var 4))) .nil)))) (.cons (.ret (.var 2)) .nil))))
def n_parts_looked : List Str := ["thing", "deep", "found", "part", "more"]
def b_parts_looked : List Str := ["isinstance", "len", "tuple"]
def x_parts_looked : List Str := []
def cl_parts_looked : List Str := []
def fl_parts_looked : List Str := []
def i_parts_looked : List (Str × Int) := []
def s_parts_looked : List (Str × List Nat) := []
def gt_parts_looked : List (Str × List (List Nat)) := []
def gd_parts_looked : List (Str × List (List Nat × List (List Nat))) := []
theorem c_parts_looked : chkSs ⟨n_parts_looked, [("_law_mixed", none), ("_law_kinds", none), ("Reader", some "need"), ("Reader", some "ahead"), ("Reader", some "begin"), ("Reader", some "shut"), ("Reader", some "go_on"), ("Reader", some "whole"), ("is_name", none), ("parts_looked", none)], i_parts_looked, s_parts_looked, b_parts_looked, x_parts_looked, cl_parts_looked, fl_parts_looked, gt_parts_looked, gd_parts_looked⟩ (defScope (top 23)) e_parts_looked (defBody (top 23)) = true := by decide +kernel
theorem sc_parts_looked : C8.scC n_parts_looked ["thing", "deep"] (defScope (top 23)) = true := by decide +kernel
-- is_tree(thing)  slots 0 thing
def e_is_tree : S := .cons (.ret (.chain .le .le (.int 1) (.call 9 (.cons (.var 0) (.cons (.gint "MOST_DEEP" 8) .nil))) (.gint "MOST_PARTS" 60))) .nil
def n_is_tree : List Str := ["thing"]
def b_is_tree : List Str := []
def x_is_tree : List Str := []
def cl_is_tree : List Str := []
def fl_is_tree : List Str := []
def i_is_tree : List (Str × Int) := [("MOST_DEEP", 8), ("MOST_PARTS", 60)]
def s_is_tree : List (Str × List Nat) := []
def gt_is_tree : List (Str × List (List Nat)) := []
def gd_is_tree : List (Str × List (List Nat × List (List Nat))) := []
theorem c_is_tree : chkSs ⟨n_is_tree, [("_law_mixed", none), ("_law_kinds", none), ("Reader", some "need"), ("Reader", some "ahead"), ("Reader", some "begin"), ("Reader", some "shut"), ("Reader", some "go_on"), ("Reader", some "whole"), ("is_name", none), ("parts_looked", none)], i_is_tree, s_is_tree, b_is_tree, x_is_tree, cl_is_tree, fl_is_tree, gt_is_tree, gd_is_tree⟩ (defScope (top 24)) e_is_tree (defBody (top 24)) = true := by decide +kernel
theorem sc_is_tree : C8.scC n_is_tree ["thing"] (defScope (top 24)) = true := by decide +kernel
-- need_tree(tree)  slots 0 tree
def e_need_tree : S := .cons (.ife (.lnot (.call 10 (.cons (.var 0) .nil))) (.cons (.raise "BadTree" [] .nil) .nil) .nil) .nil
def n_need_tree : List Str := ["tree"]
def b_need_tree : List Str := []
def x_need_tree : List Str := x_all
def cl_need_tree : List Str := []
def fl_need_tree : List Str := []
def i_need_tree : List (Str × Int) := []
def s_need_tree : List (Str × List Nat) := []
def gt_need_tree : List (Str × List (List Nat)) := []
def gd_need_tree : List (Str × List (List Nat × List (List Nat))) := []
theorem c_need_tree : chkSs ⟨n_need_tree, [("_law_mixed", none), ("_law_kinds", none), ("Reader", some "need"), ("Reader", some "ahead"), ("Reader", some "begin"), ("Reader", some "shut"), ("Reader", some "go_on"), ("Reader", some "whole"), ("is_name", none), ("parts_looked", none), ("is_tree", none)], i_need_tree, s_need_tree, b_need_tree, x_need_tree, cl_need_tree, fl_need_tree, gt_need_tree, gd_need_tree⟩ (defScope (top 25)) e_need_tree (defBody (top 25)) = true := by decide +kernel
theorem sc_need_tree : C8.scC n_need_tree ["tree"] (defScope (top 25)) = true := by decide +kernel
-- Reader.__init__(self, text)  slots 0 self, 1 text
def e_Reader___init__ : S := .cons (.setF (.var 0) "text" (.var 1) cl_all) (.cons (.setF (.var 0) "spot" (.int 0) cl_all) (.cons (.setF (.var 0) "words" (.lst false .nil) cl_all) (.cons (.setF (.var 0) "inner" (.lst false (.cons (.lst false .nil) .nil)) cl_all) (.cons (.setF (.var 0) "is_bare" (.bl false) cl_all) .nil))))
def n_Reader___init__ : List Str := ["self", "text"]
def b_Reader___init__ : List Str := []
def x_Reader___init__ : List Str := []
def cl_Reader___init__ : List Str := cl_all
def fl_Reader___init__ : List Str := fl_all
def i_Reader___init__ : List (Str × Int) := []
def s_Reader___init__ : List (Str × List Nat) := []
def gt_Reader___init__ : List (Str × List (List Nat)) := []
def gd_Reader___init__ : List (Str × List (List Nat × List (List Nat))) := []
theorem c_Reader___init__ : chkSs ⟨n_Reader___init__, [("_law_mixed", none), ("_law_kinds", none), ("Reader", some "need"), ("Reader", some "ahead"), ("Reader", some "begin"), ("Reader", some "shut"), ("Reader", some "go_on"), ("Reader", some "whole"), ("is_name", none), ("parts_looked", none), ("is_tree", none), ("need_tree", none)], i_Reader___init__, s_Reader___init__, b_Reader___init__, x_Reader___init__, cl_Reader___init__, fl_Reader___init__, gt_Reader___init__, gd_Reader___init__⟩ (defScope (cm 32 0)) e_Reader___init__ (defBody (cm 32 0)) = true := by decide +kernel
theorem sc_Reader___init__ : C8.scC n_Reader___init__ ["self", "text"] (defScope (cm 32 0)) = true := by decide +kernel
-- read_tree(text)  slots 0 text, 1 found
def e_read_tree : S := .cons (.ife (.lnot (.isi (.var 0) .str)) (.cons (.raise "BadText" ["at"] (.cons (.int 0) .nil)) .nil) .nil) (.cons (.set (.nm 1) (.fgt (.meth 7 "Reader" "whole" (.make 12 "Reader" (.cons (.var 0) .nil)) .nil))) (.cons (.expr (.call 11 (.cons (.var 1) .nil))) (.cons (.ret (.var 1)) .nil)))
def n_read_tree : List Str := ["text", "found"]
def b_read_tree : List Str := ["isinstance", "str"]
def x_read_tree : List Str := x_all
def cl_read_tree : List Str := cl_all
def fl_read_tree : List Str := fl_all
def i_read_tree : List (Str × Int) := []
def s_read_tree : List (Str × List Nat) := []
def gt_read_tree : List (Str × List (List Nat)) := []
def gd_read_tree : List (Str × List (List Nat × List (List Nat))) := []
theorem c_read_tree : chkSs ⟨n_read_tree, [("_law_mixed", none), ("_law_kinds", none), ("Reader", some "need"), ("Reader", some "ahead"), ("Reader", some "begin"), ("Reader", some "shut"), ("Reader", some "go_on"), ("Reader", some "whole"), ("is_name", none), ("parts_looked", none), ("is_tree", none), ("need_tree", none), ("Reader", some "__init__")], i_read_tree, s_read_tree, b_read_tree, x_read_tree, cl_read_tree, fl_read_tree, gt_read_tree, gd_read_tree⟩ (defScope (top 33)) e_read_tree (defBody (top 33)) = true := by decide +kernel
theorem sc_read_tree : C8.scC n_read_tree ["text"] (defScope (top 33)) = true := by decide +kernel
-- is_whole(thing)  slots 0 thing
def e_is_whole : S := .cons (.ret (.land (.cons (.isi (.var 0) .int) (.cons (.lnot (.isi (.var 0) .bool)) .nil)))) .nil
def n_is_whole : List Str := ["thing"]
def b_is_whole : List Str := ["bool", "int", "isinstance"]
def x_is_whole : List Str := []
def cl_is_whole : List Str := []
def fl_is_whole : List Str := []
def i_is_whole : List (Str × Int) := []
def s_is_whole : List (Str × List Nat) := []
def gt_is_whole : List (Str × List (List Nat)) := []
def gd_is_whole : List (Str × List (List Nat × List (List Nat))) := []
theorem c_is_whole : chkSs ⟨n_is_whole, [("_law_mixed", none), ("_law_kinds", none), ("Reader", some "need"), ("Reader", some "ahead"), ("Reader", some "begin"), ("Reader", some "shut"), ("Reader", some "go_on"), ("Reader", some "whole"), ("is_name", none), ("parts_looked", none), ("is_tree", none), ("need_tree", none), ("Reader", some "__init__"), ("read_tree", none)], i_is_whole, s_is_whole, b_is_whole, x_is_whole, cl_is_whole, fl_is_whole, gt_is_whole, gd_is_whole⟩ (defScope (top 17)) e_is_whole (defBody (top 17)) = true := by decide +kernel
theorem sc_is_whole : C8.scC n_is_whole ["thing"] (defScope (top 17)) = true := by decide +kernel
-- is_among(thing, least, most)  slots 0 thing, 1 least, 2 most
def e_is_among : S := .cons (.ret (.land (.cons (.call 14 (.cons (.var 0) .nil)) (.cons (.chain .le .le (.var 1) (.var 0) (.var 2)) .nil)))) .nil
def n_is_among : List Str := ["thing", "least", "most"]
def b_is_among : List Str := []
def x_is_among : List Str := []
def cl_is_among : List Str := []
def fl_is_among : List Str := []
def i_is_among : List (Str × Int) := []
def s_is_among : List (Str × List Nat) := []
def gt_is_among : List (Str × List (List Nat)) := []
def gd_is_among : List (Str × List (List Nat × List (List Nat))) := []
theorem c_is_among : chkSs ⟨n_is_among, [("_law_mixed", none), ("_law_kinds", none), ("Reader", some "need"), ("Reader", some "ahead"), ("Reader", some "begin"), ("Reader", some "shut"), ("Reader", some "go_on"), ("Reader", some "whole"), ("is_name", none), ("parts_looked", none), ("is_tree", none), ("need_tree", none), ("Reader", some "__init__"), ("read_tree", none), ("is_whole", none)], i_is_among, s_is_among, b_is_among, x_is_among, cl_is_among, fl_is_among, gt_is_among, gd_is_among⟩ (defScope (top 18)) e_is_among (defBody (top 18)) = true := by decide +kernel
theorem sc_is_among : C8.scC n_is_among ["thing", "least", "most"] (defScope (top 18)) = true := by decide +kernel
-- found_at(tree, place)  slots 0 tree, 1 place, 2 part, 3 at
def e_found_at : S := .cons (.ife (.lnot (.isi (.var 1) .tuple)) (.cons (.ret .non) .nil) .nil) (.cons (.set (.nm 2) (.var 0)) (.cons (.for_ (.itL (.var 1)) (.nm 3) (.cons (.ife (.lnot (.call 15 (.cons (.var 3) (.cons (.int 0) (.cons (.op true .sub (.b1 .len (.ix (.var 2) (.int 1))) (.int 1)) .nil))))) (.cons (.ret .non) .nil) .nil) (.cons (.set (.nm 2) (.ix (.ix (.var 2) (.int 1)) (.var 3))) .nil))) (.cons (.ret (.var 2)) .nil)))
def n_found_at : List Str := ["tree", "place", "part", "at"]
def b_found_at : List Str := ["isinstance", "len", "tuple"]
def x_found_at : List Str := []
def cl_found_at : List Str := []
def fl_found_at : List Str := []
def i_found_at : List (Str × Int) := []
def s_found_at : List (Str × List Nat) := []
def gt_found_at : List (Str × List (List Nat)) := []
def gd_found_at : List (Str × List (List Nat × List (List Nat))) := []
theorem c_found_at : chkSs ⟨n_found_at, [("_law_mixed", none), ("_law_kinds", none), ("Reader", some "need"), ("Reader", some "ahead"), ("Reader", some "begin"), ("Reader", some "shut"), ("Reader", some "go_on"), ("Reader", some "whole"), ("is_name", none), ("parts_looked", none), ("is_tree", none), ("need_tree", none), ("Reader", some "__init__"), ("read_tree", none), ("is_whole", none), ("is_among", none)], i_found_at, s_found_at, b_found_at, x_found_at, cl_found_at, fl_found_at, gt_found_at, gd_found_at⟩ (defScope (top 26)) e_found_at (defBody (top 26)) = true := by decide +kernel
theorem sc_found_at : C8.scC n_found_at ["tree", "place"] (defScope (top 26)) = true := by decide +kernel
-- part_at(tree, place)  slots 0 tree, 1 place, 2 part
def e_part_at : S := .cons (.expr (.call 11 (.cons (.var 0) .nil))) (.cons (.set (.nm 2) (.call 16 (.cons (.var 0) (.cons (.var 1) .nil)))) (.cons (.ife (.cmp .is (.var 2) .non) (.cons (.raise "OutOfPlace" [] .nil) .nil) .nil) (.cons (.ret (.var 2)) .nil)))
def n_part_at : List Str := ["tree", "place", "part"]
def b_part_at : List Str := []
def x_part_at : List Str := x_all
def cl_part_at : List Str := []
def fl_part_at : List Str := []
def i_part_at : List (Str × Int) := []
def s_part_at : List (Str × List Nat) := []
def gt_part_at : List (Str × List (List Nat)) := []
def gd_part_at : List (Str × List (List Nat × List (List Nat))) := []
theorem c_part_at : chkSs ⟨n_part_at, [("_law_mixed", none), ("_law_kinds", none), ("Reader", some "need"), ("Reader", some "ahead"), ("Reader", some "begin"), ("Reader", some "shut"), ("Reader", some "go_on"), ("Reader", some "whole"), ("is_name", none), ("parts_looked", none), ("is_tree", none), ("need_tree", none), ("Reader", some "__init__"), ("read_tree", none), ("is_whole", none), ("is_among", none), ("found_at", none)], i_part_at, s_part_at, b_part_at, x_part_at, cl_part_at, fl_part_at, gt_part_at, gd_part_at⟩ (defScope (top 27)) e_part_at (defBody (top 27)) = true := by decide +kernel
theorem sc_part_at : C8.scC n_part_at ["tree", "place"] (defScope (top 27)) = true := by decide +kernel
-- many_at(tree, place)  slots 0 tree, 1 place
def e_many_at : S := .cons (.ret (.b1 .len (.ix (.call 17 (.cons (.var 0) (.cons (.var 1) .nil))) (.int 1)))) .nil
def n_many_at : List Str := ["tree", "place"]
def b_many_at : List Str := ["len"]
def x_many_at : List Str := []
def cl_many_at : List Str := []
def fl_many_at : List Str := []
def i_many_at : List (Str × Int) := []
def s_many_at : List (Str × List Nat) := []
def gt_many_at : List (Str × List (List Nat)) := []
def gd_many_at : List (Str × List (List Nat × List (List Nat))) := []
theorem c_many_at : chkSs ⟨n_many_at, [("_law_mixed", none), ("_law_kinds", none), ("Reader", some "need"), ("Reader", some "ahead"), ("Reader", some "begin"), ("Reader", some "shut"), ("Reader", some "go_on"), ("Reader", some "whole"), ("is_name", none), ("parts_looked", none), ("is_tree", none), ("need_tree", none), ("Reader", some "__init__"), ("read_tree", none), ("is_whole", none), ("is_among", none), ("found_at", none), ("part_at", none)], i_many_at, s_many_at, b_many_at, x_many_at, cl_many_at, fl_many_at, gt_many_at, gd_many_at⟩ (defScope (top 28)) e_many_at (defBody (top 28)) = true := by decide +kernel
theorem sc_many_at : C8.scC n_many_at ["tree", "place"] (defScope (top 28)) = true := by decide +kernel
-- part_text(part)  slots 0 part, 1 one
def e_part_text : S := .cons (.ife (.cmp .eq (.ix (.var 0) (.int 1)) (.tup .nil)) (.cons (.ret (.ix (.var 0) (.int 0))) .nil) .nil) (.cons (.ret (.op true .add (.op true .add (.op true .add (.ix (.var 0) (.int 0)) (.str [40])) (.mth .join (.str [44]) (.cons (.comp true (.itL (.ix (.var 0) (.int 1))) (.nm 1) [1] .nil (.call 19 (.cons (.var 1) .nil))) .nil))) (.str [41]))) .nil)
def n_part_text : List Str := ["part", "one"]
def b_part_text : List Str := []
def x_part_text : List Str := []
def cl_part_text : List Str := []
def fl_part_text : List Str := []
def i_part_text : List (Str × Int) := []
def s_part_text : List (Str × List Nat) := []
def gt_part_text : List (Str × List (List Nat)) := []
def gd_part_text : List (Str × List (List Nat × List (List Nat))) := []
theorem c_part_text : chkSs ⟨n_part_text, [("_law_mixed", none), ("_law_kinds", none), ("Reader", some "need"), ("Reader", some "ahead"), ("Reader", some "begin"), ("Reader", some "shut"), ("Reader", some "go_on"), ("Reader", some "whole"), ("is_name", none), ("parts_looked", none), ("is_tree", none), ("need_tree", none), ("Reader", some "__init__"), ("read_tree", none), ("is_whole", none), ("is_among", none), ("found_at", none), ("part_at", none), ("many_at", none), ("part_text", none)], i_part_text, s_part_text, b_part_text, x_part_text, cl_part_text, fl_part_text, gt_part_text, gd_part_text⟩ (defScope (top 30)) e_part_text (defBody (top 30)) = true := by decide +kernel
theorem sc_part_text : C8.scC n_part_text ["part"] (defScope (top 30)) = true := by decide +kernel
-- tree_text(tree)  slots 0 tree
def e_tree_text : S := .cons (.expr (.call 11 (.cons (.var 0) .nil))) (.cons (.ret (.call 19 (.cons (.var 0) .nil))) .nil)
def n_tree_text : List Str := ["tree"]
def b_tree_text : List Str := []
def x_tree_text : List Str := []
def cl_tree_text : List Str := []
def fl_tree_text : List Str := []
def i_tree_text : List (Str × Int) := []
def s_tree_text : List (Str × List Nat) := []
def gt_tree_text : List (Str × List (List Nat)) := []
def gd_tree_text : List (Str × List (List Nat × List (List Nat))) := []
theorem c_tree_text : chkSs ⟨n_tree_text, [("_law_mixed", none), ("_law_kinds", none), ("Reader", some "need"), ("Reader", some "ahead"), ("Reader", some "begin"), ("Reader", some "shut"), ("Reader", some "go_on"), ("Reader", some "whole"), ("is_name", none), ("parts_looked", none), ("is_tree", none), ("need_tree", none), ("Reader", some "__init__"), ("read_tree", none), ("is_whole", none), ("is_among", none), ("found_at", none), ("part_at", none), ("many_at", none), ("part_text", none)], i_tree_text, s_tree_text, b_tree_text, x_tree_text, cl_tree_text, fl_tree_text, gt_tree_text, gd_tree_text⟩ (defScope (top 31)) e_tree_text (defBody (top 31)) = true := by decide +kernel
theorem sc_tree_text : C8.scC n_tree_text ["tree"] (defScope (top 31)) = true := by decide +kernel
-- _law_told(way, text, place)  slots 0 way, 1 text, 2 place, 3 wrong, 4 e
def e__law_told : S := .cons (.set (.nm 3) .non) (.cons (.try1 (.cons (.ife (.cmp .eq (.var 0) (.int 0)) (.cons (.expr (.call 13 (.cons (.var 1) .nil))) .nil) (.cons (.ife (.cmp .eq (.var 0) (.int 1)) (.cons (.expr (.call 17 (.cons (.var 1) (.cons (.var 2) .nil)))) .nil) (.cons (.ife (.cmp .eq (.var 0) (.int 2)) (.cons (.expr (.call 18 (.cons (.var 1) (.cons (.var 2) .nil)))) .nil) (.cons (.expr (.call 20 (.cons (.var 1) .nil))) .nil)) .nil)) .nil)) .nil) x_all "MarkError" (some 4) [(3, .exn)]) (.cons (.ret (.fgt (.ife (.cmp .is (.var 3) .non) .non (.call 1 (.cons (.var 3) .nil))))) .nil))
def n__law_told : List Str := ["way", "text", "place", "wrong", "e"]
def b__law_told : List Str := []
def x__law_told : List Str := x_all
def cl__law_told : List Str := []
def fl__law_told : List Str := []
def i__law_told : List (Str × Int) := []
def s__law_told : List (Str × List Nat) := []
def gt__law_told : List (Str × List (List Nat)) := []
def gd__law_told : List (Str × List (List Nat × List (List Nat))) := []
theorem c__law_told : chkSs ⟨n__law_told, [("_law_mixed", none), ("_law_kinds", none), ("Reader", some "need"), ("Reader", some "ahead"), ("Reader", some "begin"), ("Reader", some "shut"), ("Reader", some "go_on"), ("Reader", some "whole"), ("is_name", none), ("parts_looked", none), ("is_tree", none), ("need_tree", none), ("Reader", some "__init__"), ("read_tree", none), ("is_whole", none), ("is_among", none), ("found_at", none), ("part_at", none), ("many_at", none), ("part_text", none), ("tree_text", none)], i__law_told, s__law_told, b__law_told, x__law_told, cl__law_told, fl__law_told, gt__law_told, gd__law_told⟩ (defScope (top 37)) e__law_told (defBody (top 37)) = true := by decide +kernel
theorem sc__law_told : C8.scC n__law_told ["way", "text", "place"] (defScope (top 37)) = true := by decide +kernel
-- law(script)  slots 0 script, 1 number, 2 made, 3 told, 4 more, 5 names, 6 many, 7 great, 8 deep, 9 due, 10 thing, 11 good, 12 error, 13 name, 14 text, 15 way
def e_law_s1 : S := .set (.nm 1) (.call 0 (.cons (.b1 .sum (.var 0)) (.cons (.b1 .len (.var 0)) .nil)))
def e_law_s2 : S := .set (.nm 2) (.lst true (.cons (.mkx "BadText" ["at"] (.cons (.var 1) .nil)) (.cons (.mkx "BadRow" ["row", "word"] (.cons (.var 1) (.cons (.int 3) .nil))) (.cons (.mkx "BadChange" ["at", "why"] (.cons (.var 1) (.cons (.str [112, 108, 97, 99, 101]) .nil))) (.cons (.mkx "BadChange" ["at", "why"] (.cons (.non) (.cons (.str [102, 111, 114, 109]) .nil))) .nil)))))
def e_law_s3 : S := .set (.nm 3) (.lst true (.cons (.xfld (.ix (.var 2) (.int 0)) "at" x_all) (.cons (.xfld (.ix (.var 2) (.int 1)) "row" x_all) (.cons (.xfld (.ix (.var 2) (.int 1)) "word" x_all) (.cons (.xfld (.ix (.var 2) (.int 2)) "at" x_all) (.cons (.xfld (.ix (.var 2) (.int 2)) "why" x_all) (.cons (.xfld (.ix (.var 2) (.int 3)) "at" x_all) (.cons (.xfld (.ix (.var 2) (.int 3)) "why" x_all) .nil))))))))
def e_law_s4 : S := .ife (.cmp .ne (.var 3) (.lst true (.cons (.var 1) (.cons (.var 1) (.cons (.int 3) (.cons (.var 1) (.cons (.str [112, 108, 97, 99, 101]) (.cons (.non) (.cons (.str [102, 111, 114, 109]) .nil))))))))) (.cons (.ret (.bl false)) .nil) .nil
def e_law_s5 : S := .set (.nm 4) (.lst true (.cons (.mkx "BadPaper" ["place"] (.cons (.var 1) .nil)) (.cons (.mkx "BadPaper" ["place"] (.cons (.non) .nil)) (.cons (.mkx "BadRows" ["hand", "at", "why"] (.cons (.str [108, 101, 102, 116]) (.cons (.var 1) (.cons (.str [97, 116]) .nil)))) (.cons (.mkx "BadMakes" ["number"] (.cons (.var 1) .nil)) (.cons (.mkx "BadText" ["at"] (.cons (.int 0) .nil)) .nil))))))
def e_law_s6 : S := .set (.nm 3) (.lst true (.cons (.xfld (.ix (.var 4) (.int 0)) "place" x_all) (.cons (.xfld (.ix (.var 4) (.int 1)) "place" x_all) (.cons (.xfld (.ix (.var 4) (.int 2)) "hand" x_all) (.cons (.xfld (.ix (.var 4) (.int 2)) "at" x_all) (.cons (.xfld (.ix (.var 4) (.int 2)) "why" x_all) (.cons (.xfld (.ix (.var 4) (.int 3)) "number" x_all) (.cons (.xfld (.ix (.var 4) (.int 4)) "at" x_all) .nil))))))))
def e_law_s7 : S := .ife (.cmp .ne (.var 3) (.lst true (.cons (.var 1) (.cons (.non) (.cons (.str [108, 101, 102, 116]) (.cons (.var 1) (.cons (.str [97, 116]) (.cons (.var 1) (.cons (.int 0) .nil))))))))) (.cons (.ret (.bl false)) .nil) .nil
def e_law_s8 : S := .set (.nm 2) (.op true .add (.op true .add (.var 2) (.var 4)) (.lst true (.cons (.mkx0 "BadTree") (.cons (.mkx0 "OutOfPlace") (.cons (.mkx0 "NoMake") (.cons (.mkx0 "TooGreat") (.cons (.mkx0 "BadForm") (.cons (.mkx0 "NoBase") .nil))))))))
def e_law_s9 : S := .set (.nm 5) (.lst true (.cons (.str [116, 101, 120, 116]) (.cons (.str [114, 111, 119]) (.cons (.str [99, 104, 97, 110, 103, 101]) (.cons (.str [99, 104, 97, 110, 103, 101]) (.cons (.str [112, 97, 112, 101, 114]) (.cons (.str [112, 97, 112, 101, 114]) (.cons (.str [114, 111, 119, 115]) (.cons (.str [109, 97, 107, 101, 115]) (.cons (.str [116, 101, 120, 116]) (.cons (.str [116, 114, 101, 101]) (.cons (.str [112, 108, 97, 99, 101]) (.cons (.str [109, 97, 107, 101]) .nil)))))))))))))
def e_law_s10 : S := .ife (.cmp .ne (.comp true (.itL (.var 2)) (.nm 12) [12] .nil (.call 1 (.cons (.var 12) .nil))) (.comp true (.itL (.op true .add (.var 5) (.lst true (.cons (.str [103, 114, 101, 97, 116]) (.cons (.str [102, 111, 114, 109]) (.cons (.str [98, 97, 115, 101]) .nil)))))) (.nm 13) [13] .nil (.lst true (.cons (.var 13) .nil)))) (.cons (.ret (.bl false)) .nil) .nil
def e_law_s11 : S := .set (.nm 6) (.op true .mod (.var 1) (.int 60))
def e_law_s12 : S := .set (.nm 7) (.op true .add (.op true .add (.str [97, 40]) (.mth .join (.str [44]) (.cons (.op true .mul (.lst false (.cons (.str [97]) .nil)) (.op true .add (.int 60) (.var 6))) .nil))) (.str [41]))
def e_law_s13 : S := .set (.nm 8) (.op true .add (.op true .add (.op true .mul (.str [98, 40]) (.op true .add (.int 8) (.var 6))) (.str [98])) (.op true .mul (.str [41]) (.op true .add (.int 8) (.var 6))))
def e_law_s14 : S := .set (.nm 9) (.op true .add (.op true .mul (.lst false (.cons (.lst true (.cons (.str [116, 114, 101, 101]) .nil)) .nil)) (.int 2)) (.op true .mul (.lst false (.cons (.lst true (.cons (.str [116, 101, 120, 116]) .nil)) .nil)) (.int 2)))
def e_law_s15 : S := .ife (.cmp .ne (.comp true (.itL (.tup (.cons (.var 7) (.cons (.var 8) (.cons (.op true .add (.var 7) (.str [41])) (.cons (.sl true (.var 8) .nil (.neg (.int 1))) .nil)))))) (.nm 14) [14] .nil (.call 21 (.cons (.int 0) (.cons (.var 14) (.cons (.non) .nil))))) (.var 9)) (.cons (.ret (.bl false)) .nil) .nil
def e_law_f16 : S := .cons (.ife (.cmp .ne (.comp true (.itL (.tup (.cons (.int 1) (.cons (.int 2) (.cons (.int 3) .nil))))) (.nm 15) [15] .nil (.call 21 (.cons (.var 15) (.cons (.var 10) (.cons (.ix (.lst true (.cons (.tup (.cons (.int 5) .nil)) (.cons (.non) (.cons (.tup .nil) .nil)))) (.op true .mod (.var 15) (.int 3))) .nil))))) (.op true .mul (.lst false (.cons (.lst true (.cons (.str [116, 114, 101, 101]) .nil)) .nil)) (.int 3))) (.cons (.ret (.bl false)) .nil) .nil) .nil
def e_law_s16 : S := .for_ (.itL (.tup (.cons (.tup (.cons (.str [65]) (.cons (.tup .nil) .nil))) (.cons (.tup (.cons (.str [97]) (.cons (.op true .mul (.tup (.cons (.tup (.cons (.str [98]) (.cons (.tup .nil) .nil))) .nil)) (.op true .add (.int 60) (.var 6))) .nil))) (.cons (.non) .nil))))) (.nm 10) (e_law_f16)
def e_law_s17 : S := .set (.nm 11) (.tup (.cons (.str [97]) (.cons (.op true .mul (.tup (.cons (.tup (.cons (.str [98]) (.cons (.tup .nil) .nil))) .nil)) (.op true .add (.int 1) (.op true .mod (.var 6) (.int 59)))) .nil)))
def e_law_s18 : S := .ret (.cmp .eq (.comp true (.itL (.tup (.cons (.int 1) (.cons (.int 2) (.cons (.int 3) .nil))))) (.nm 15) [15] .nil (.call 21 (.cons (.var 15) (.cons (.var 11) (.cons (.tup (.cons (.op true .add (.var 1) (.int 60)) .nil)) .nil))))) (.lst true (.cons (.lst true (.cons (.str [112, 108, 97, 99, 101]) .nil)) (.cons (.lst true (.cons (.str [112, 108, 97, 99, 101]) .nil)) (.cons (.non) .nil)))))
def e_law : S := .cons (e_law_s1) (.cons (e_law_s2) (.cons (e_law_s3) (.cons (e_law_s4) (.cons (e_law_s5) (.cons (e_law_s6) (.cons (e_law_s7) (.cons (e_law_s8) (.cons (e_law_s9) (.cons (e_law_s10) (.cons (e_law_s11) (.cons (e_law_s12) (.cons (e_law_s13) (.cons (e_law_s14) (.cons (e_law_s15) (.cons (e_law_s16) (.cons (e_law_s17) (.cons (e_law_s18) .nil)))))))))))))))))
def n_law : List Str := ["script", "number", "made", "told", "more", "names", "many", "great", "deep", "due", "thing", "good", "error", "name", "text", "way"]
def b_law : List Str := ["len", "sum"]
def x_law : List Str := x_all
def cl_law : List Str := []
def fl_law : List Str := []
def i_law : List (Str × Int) := []
def s_law : List (Str × List Nat) := []
def gt_law : List (Str × List (List Nat)) := []
def gd_law : List (Str × List (List Nat × List (List Nat))) := []
theorem c_law : chkSs ⟨n_law, [("_law_mixed", none), ("_law_kinds", none), ("Reader", some "need"), ("Reader", some "ahead"), ("Reader", some "begin"), ("Reader", some "shut"), ("Reader", some "go_on"), ("Reader", some "whole"), ("is_name", none), ("parts_looked", none), ("is_tree", none), ("need_tree", none), ("Reader", some "__init__"), ("read_tree", none), ("is_whole", none), ("is_among", none), ("found_at", none), ("part_at", none), ("many_at", none), ("part_text", none), ("tree_text", none), ("_law_told", none)], i_law, s_law, b_law, x_law, cl_law, fl_law, gt_law, gd_law⟩ (defScope (top 38)) e_law (defBody (top 38)) = true := by decide +kernel
theorem sc_law : C8.scC n_law ["script"] (defScope (top 38)) = true := by decide +kernel
end K07
namespace K07
open PySem PySem.Spec PyProof.Rows L2 Lit
/-! ### as many brackets open as shut -/
theorem cnt_w41 {w : List Nat} (h : isN (.str w) = true) : Lit.cnt 41 w = 0 := by
  have := (isN_len h).2.2
  induction w with
  | nil => rfl
  | cons a l ih =>
    have ha := word_plain h a (by simp)
    rw [Lit.cnt_cons, if_neg ha.2]
    clear ih
    have all : ∀ l : List Nat, (∀ c ∈ l, c ≠ 41) → Lit.cnt 41 l = 0 := fun l => by
      induction l with
      | nil => intro _; rfl
      | cons b l ih => intro hh; rw [Lit.cnt_cons, if_neg (hh b (by simp)), ih fun c hc => hh c (by simp [hc])]
    rw [all l fun c hc => (word_plain h c (by simp [hc])).2]
mutual
theorem bal_txt : ∀ t : T, wok t = true → Lit.cnt 40 (txt t) = Lit.cnt 41 (txt t)
  | .node w ks, q => by
    simp only [wok, Bool.and_eq_true_iff] at q
    rw [txt_eq, Lit.cnt_app, Lit.cnt_app, (Lit.cnt_word q.1).1, cnt_w41 q.1, bal_txk ks q.2]
theorem bal_txk : ∀ ks : List T, woks ks = true → Lit.cnt 40 (txk ks) = Lit.cnt 41 (txk ks)
  | [], _ => rfl
  | k :: ks, q => by
    simp only [woks, Bool.and_eq_true_iff] at q
    have h1 := bal_txt k q.1
    have h2 := bal_txm ks q.2
    simp only [txk, Lit.cnt_cons, Lit.cnt_app, List.cons_append, List.append_assoc, List.nil_append] at h2 ⊢
    simp
    omega
theorem bal_txm : ∀ ks : List T, woks ks = true → Lit.cnt 40 (txm ks) + 1 = Lit.cnt 41 (txm ks)
  | [], _ => rfl
  | k :: ks, q => by
    simp only [woks, Bool.and_eq_true_iff] at q
    have h1 := bal_txt k q.1
    have h2 := bal_txm ks q.2
    simp only [txm, Lit.cnt_cons, Lit.cnt_app, List.cons_append, List.append_assoc, List.nil_append] at h2 ⊢
    simp
    omega
end
def R (n : Nat) (a : List Nat) : List Nat := (List.replicate n a).flatten
theorem R_len (n : Nat) (a : List Nat) : (R n a).length = n * a.length := by
  unfold R
  induction n with
  | zero => simp
  | succ k ih => rw [List.replicate_succ, List.flatten_cons, List.length_append, ih, Nat.succ_mul]; omega
theorem R_succ (n : Nat) (a : List Nat) : R (n + 1) a = a ++ R n a := by unfold R; rw [List.replicate_succ, List.flatten_cons]
theorem R_snoc (a : List Nat) : ∀ n : Nat, R (n + 1) a = R n a ++ a
  | 0 => by simp [R]
  | n + 1 => by
    have h := R_snoc a n
    rw [R_succ (n + 1), h, ← List.append_assoc, ← R_succ n, h]
def wideT (n : Nat) : T := .node [97] (List.replicate n (.node [97] []))
def chainT : Nat → T
  | 0 => .node [98] []
  | n + 1 => .node [98] [chainT n]
theorem woks_rep {k : T} (q : wok k = true) : ∀ n, woks (List.replicate n k) = true
  | 0 => rfl
  | n + 1 => by rw [List.replicate_succ]; simp only [woks, q, woks_rep q n, Bool.and_self]
theorem sizes_rep (k : T) : ∀ n, sizes (List.replicate n k) = n * size k
  | 0 => by simp [sizes]
  | n + 1 => by rw [List.replicate_succ]; simp only [sizes, sizes_rep k n, Nat.succ_mul]; omega
theorem wide_wok (n : Nat) : wok (wideT n) = true := by simp only [wideT, wok, woks_rep (k := .node [97] []) rfl n]; rfl
theorem wide_size (n : Nat) : size (wideT n) = n + 1 := by
  have e : size (.node [97] []) = 1 := rfl
  unfold wideT
  rw [show size (.node [97] (List.replicate n (.node [97] []))) = 1 + sizes (List.replicate n (.node [97] [])) from rfl, sizes_rep, e]
  omega
theorem chain_wok : ∀ n, wok (chainT n) = true
  | 0 => rfl
  | n + 1 => by simp only [chainT, wok, woks, chain_wok n]; rfl
theorem chain_dpt : ∀ n, dpt (chainT n) = n + 1
  | 0 => rfl
  | n + 1 => by simp only [chainT, dpt, dpts, chain_dpt n]; omega
theorem chain_size : ∀ n, size (chainT n) = n + 1
  | 0 => rfl
  | n + 1 => by simp only [chainT, size, sizes, chain_size n]; omega
theorem wide_txt (n : Nat) : [97, 40] ++ TL.joinL [44] (List.replicate (n + 1) [97]) ++ [41] = txt (wideT (n + 1)) := by
  unfold wideT
  rw [List.replicate_succ (a := T.node [97] []), txt_eq, txk_join, List.map_cons, ← List.map_cons, ← List.replicate_succ, List.map_replicate]
  have e : txt (.node [97] []) = [97] := rfl
  rw [e]
  simp
theorem chain_txt : ∀ n, R n [98, 40] ++ [98] ++ R n [41] = txt (chainT n)
  | 0 => rfl
  | n + 1 => by
    simp only [chainT]
    rw [txt_eq, txk_join, List.map_cons, List.map_nil, ← chain_txt n, R_succ n [98, 40], R_snoc [41] n]
    simp [TL.joinL]
theorem no_tree {t : T} (h : 60 < size t ∨ 8 < dpt t) : isT (enc t) = false := by
  cases e : isT (enc t) with
  | false => rfl
  | true =>
    obtain ⟨u, eu, g⟩ := isT_dec e
    cases enc_inj _ _ eu
    have := g.s
    have := g.d
    omega
end K07
namespace K07
open PySem PySem.Spec PyProof.Rows L2 Lit
def spPartA : DSp := fun ds h xq Q => ∃ y x : D, ds = [y, x] ∧ dat h y ∧ dat h x ∧ (∀ t, y = enc t → GT t → (∀ u, fa t x = some u → Q (enc u) h) ∧ (fa t x = none → xq ⟨"OutOfPlace", []⟩ h)) ∧ (isT y = false → xq ⟨"BadTree", []⟩ h)
theorem b_partA (sps : List DSp) (iN iF : Nat) (eN : sps[iN]? = some spNeed) (eF : sps[iF]? = some spFound) (ds h xq Q) (q : spPartA ds h xq Q) : body sps (E_part iN iF) 3 ds h xq Q := by
  obtain ⟨y, x, rfl, dy, dx, q1, q2⟩ := q
  simp [body, E_part, startD]
  refine spAt_ok eN ⟨y, rfl, dy, fun hT => ?_, q2⟩
  obtain ⟨t, rfl, g⟩ := isT_dec hT
  obtain ⟨q3, q4⟩ := q1 t rfl g
  refine spAt_ok eF ⟨t, x, rfl, dx, ?_⟩
  cases e : fa t x with
  | none =>
    simp [optD, noneD]
    exact q4 e
  | some u =>
    cases u with
    | node w ks =>
      simp [optD, enc, noneD]
      exact q3 _ e
def spManyA : DSp := fun ds h xq Q => ∃ y x : D, ds = [y, x] ∧ dat h y ∧ dat h x ∧ (∀ t, y = enc t → GT t → (∀ u, fa t x = some u → Q (.int (u.kids.length : Nat)) h) ∧ (fa t x = none → xq ⟨"OutOfPlace", []⟩ h)) ∧ (isT y = false → xq ⟨"BadTree", []⟩ h)
theorem b_manyA (sps : List DSp) (iP : Nat) (eP : sps[iP]? = some spPartA) (ds h xq Q) (q : spManyA ds h xq Q) : body sps (E_many iP) 2 ds h xq Q := by
  obtain ⟨y, x, rfl, dy, dx, q1, q2⟩ := q
  simp [body, E_many, startD]
  refine spAt_ok eP ⟨y, x, rfl, dy, dx, fun t e g => ⟨fun u eu => ?_, (q1 t e g).2⟩, q2⟩
  have := (q1 t e g).1 u eu
  cases u with
  | node w ks =>
    have a1 : atI [D.str w, .tup (encs ks)] 1 = some (.tup (encs ks)) := by simp [atI, ixN]
    simp [enc, ixD, a1, b1D, encs_len]
    exact this
theorem in_text : ("BadText" : Str) ∈ x_all := by decide +kernel
theorem in_tree : ("BadTree" : Str) ∈ x_all := by decide +kernel
theorem in_place : ("OutOfPlace" : Str) ∈ x_all := by decide +kernel
theorem k_text : kindsOf "BadText" = [[116, 101, 120, 116]] := by decide +kernel
theorem k_tree : kindsOf "BadTree" = [[116, 114, 101, 101]] := by decide +kernel
theorem k_place : kindsOf "OutOfPlace" = [[112, 108, 97, 99, 101]] := by decide +kernel
theorem s_text : subE "BadText" "MarkError" = true := by decide +kernel
theorem s_tree : subE "BadTree" "MarkError" = true := by decide +kernel
theorem s_place : subE "OutOfPlace" "MarkError" = true := by decide +kernel
abbrev dText : D := .rol [.str [116, 101, 120, 116]]
abbrev dTree : D := .rol [.str [116, 114, 101, 101]]
abbrev dPlace : D := .rol [.str [112, 108, 97, 99, 101]]
def spTold : DSp := fun ds h _ Q => ∃ (w : Int) (x pl : D), ds = [.int w, x, pl] ∧ dat h pl ∧
  ((w = 0 ∧ ∃ s, x = .str s ∧ s.length ≤ 100000 ∧ ((∃ e, Rd.all s = .bad e) ∧ Q dText h ∨ (∃ t, Rd.all s = .ok t ∧ isT (enc t) = false) ∧ Q dTree h)) ∨
  ((w = 1 ∨ w = 2 ∨ w = 3) ∧ dat h x ∧ isT x = false ∧ Q dTree h) ∨ ((w = 1 ∨ w = 2) ∧ ∃ t, x = enc t ∧ GT t ∧ fa t pl = none ∧ Q dPlace h) ∨ (w = 3 ∧ ∃ t, x = enc t ∧ GT t ∧ Q .non h))
theorem b_told (sps : List DSp) (e1 : sps[1]? = some (spKinds x_all)) (e13 : sps[13]? = some spReadT) (e17 : sps[17]? = some spPartA) (e18 : sps[18]? = some spManyA) (e20 : sps[20]? = some spTtext) (ds h xq Q) (q : spTold ds h xq Q) : body sps e__law_told 5 ds h xq Q := by
  obtain ⟨w, x, pl, rfl, dp, q⟩ := q
  have nt : ∀ {P : Prop} {t : T}, GT t → isT (enc t) = false → P := fun {P t} g z => by rw [isT_enc g] at z; cases z
  simp [body, e__law_told, startD]
  rcases q with ⟨rfl, s, rfl, hl, q⟩ | ⟨hw, dx, hf, q⟩ | ⟨hw, t, rfl, g, hn, q⟩ | ⟨rfl, t, rfl, g, q⟩
  · simp
    refine spAt_ok e13 ⟨.str s, rfl, rfl, hl, ?_⟩
    rcases q with ⟨⟨e, he⟩, q⟩ | ⟨⟨t, ht, hf⟩, q⟩
    · rw [he]
      refine try_hit in_text s_text fun p h2 m2 f2 y2 => ?_
      simp [suite, svD, noneD]
      refine spAt_ok e1 ⟨p, _, _, rfl, f2, in_text, ?_⟩
      dsimp only
      rw [show kindsOf (badT e).cls = _ from k_text]
      exact ⟨h, y2, q⟩
    · rw [ht]
      refine ⟨(fun z => by rw [hf] at z; cases z), fun _ => try_hit in_tree s_tree fun p h2 m2 f2 y2 => ?_⟩
      simp [suite, svD, noneD]
      refine spAt_ok e1 ⟨p, _, _, rfl, f2, in_tree, ?_⟩
      dsimp only
      rw [k_tree]
      exact ⟨h, y2, q⟩
  · have fin : ∀ ρ, xqTry x_all "MarkError" (some 4) [(3, .exn)] { nx := rdS sps (.cons (.ret (.fgt (.ife (.cmp .is (.var 3) .non) .non (.call 1 (.cons (.var 3) .nil))))) .nil) { nx := fun _ h' => Q .non h', rt := Q, xq := fun _ => xq }, rt := Q, xq := fun _ => xq } [some (.int w), some x, some pl, ρ, none] ⟨"BadTree", []⟩ h := fun ρ => by
      refine try_hit in_tree s_tree fun p h2 m2 f2 y2 => ?_
      simp [suite, svD, noneD]
      refine spAt_ok e1 ⟨p, _, _, rfl, f2, in_tree, ?_⟩
      dsimp only
      rw [k_tree]
      exact ⟨h, y2, q⟩
    rcases hw with rfl | rfl | rfl
    · simp
      refine spAt_ok e17 ⟨x, pl, rfl, dx, dp, fun t e g => ?_, fun _ => by simpa using fin _⟩
      rw [e] at hf
      exact nt g hf
    · simp
      refine spAt_ok e18 ⟨x, pl, rfl, dx, dp, fun t e g => ?_, fun _ => by simpa using fin _⟩
      rw [e] at hf
      exact nt g hf
    · simp
      refine spAt_ok e20 ⟨x, rfl, dx, fun t e g => ?_, fun _ => by simpa using fin _⟩
      rw [e] at hf
      exact nt g hf
  · have fin : ∀ ρ, xqTry x_all "MarkError" (some 4) [(3, .exn)] { nx := rdS sps (.cons (.ret (.fgt (.ife (.cmp .is (.var 3) .non) .non (.call 1 (.cons (.var 3) .nil))))) .nil) { nx := fun _ h' => Q .non h', rt := Q, xq := fun _ => xq }, rt := Q, xq := fun _ => xq } [some (.int w), some (enc t), some pl, ρ, none] ⟨"OutOfPlace", []⟩ h := fun ρ => by
      refine try_hit in_place s_place fun p h2 m2 f2 y2 => ?_
      simp [suite, svD, noneD]
      refine spAt_ok e1 ⟨p, _, _, rfl, f2, in_place, ?_⟩
      dsimp only
      rw [k_place]
      exact ⟨h, y2, q⟩
    rcases hw with rfl | rfl
    · simp
      refine spAt_ok e17 ⟨enc t, pl, rfl, dat_enc t g.w, dp, fun u e _ => ?_, nt g⟩
      cases enc_inj _ _ e
      exact ⟨(fun v hv => by rw [hn] at hv; cases hv), fun _ => by simpa using fin _⟩
    · simp
      refine spAt_ok e18 ⟨enc t, pl, rfl, dat_enc t g.w, dp, fun u e _ => ?_, nt g⟩
      cases enc_inj _ _ e
      exact ⟨(fun v hv => by rw [hn] at hv; cases hv), fun _ => by simpa using fin _⟩
  · simp
    refine spAt_ok e20 ⟨enc t, rfl, dat_enc t g.w, fun u e _ => ?_, nt g⟩
    simp [noneD]
    exact ⟨h, .refl, q⟩
end K07
namespace K07
open PySem PySem.Spec PyProof.Rows L2 Lit
structure Ds (sps : List DSp) : Prop where
  e0 : sps[0]? = some spMixed
  e1 : sps[1]? = some (spKinds x_all)
  e21 : sps[21]? = some spTold
def spLaw : DSp := fun ds h _ Q => ∃ ns : List Int, ds = [.rol (ns.map D.int)] ∧ ns.length ≤ 63 ∧ ∀ h', Q (.bl true) h'
theorem sumD {ns : List Int} {h : PH} {Q : D → PH → Prop} : b1D .sum (.rol (ns.map D.int)) h Q = Q (.int ns.sum) h := by simp only [b1D, rdL_rol, ints_int]
theorem lenD {ds : List D} {h : PH} {Q : D → PH → Prop} : b1D .len (.rol ds) h Q = Q (.int ds.length) h := rfl
theorem in_row : ("BadRow" : Str) ∈ x_all := by decide +kernel
theorem in_change : ("BadChange" : Str) ∈ x_all := by decide +kernel
theorem in_paper : ("BadPaper" : Str) ∈ x_all := by decide +kernel
theorem in_rows : ("BadRows" : Str) ∈ x_all := by decide +kernel
theorem in_makes : ("BadMakes" : Str) ∈ x_all := by decide +kernel
theorem in_make : ("NoMake" : Str) ∈ x_all := by decide +kernel
theorem in_great : ("TooGreat" : Str) ∈ x_all := by decide +kernel
theorem in_form : ("BadForm" : Str) ∈ x_all := by decide +kernel
theorem in_base : ("NoBase" : Str) ∈ x_all := by decide +kernel
theorem k_row : kindsOf "BadRow" = [[114, 111, 119]] := by decide +kernel
theorem k_change : kindsOf "BadChange" = [[99, 104, 97, 110, 103, 101]] := by decide +kernel
theorem k_paper : kindsOf "BadPaper" = [[112, 97, 112, 101, 114]] := by decide +kernel
theorem k_rows : kindsOf "BadRows" = [[114, 111, 119, 115]] := by decide +kernel
theorem k_makes : kindsOf "BadMakes" = [[109, 97, 107, 101, 115]] := by decide +kernel
theorem k_make : kindsOf "NoMake" = [[109, 97, 107, 101]] := by decide +kernel
theorem k_great : kindsOf "TooGreat" = [[103, 114, 101, 97, 116]] := by decide +kernel
theorem k_form : kindsOf "BadForm" = [[102, 111, 114, 109]] := by decide +kernel
theorem k_base : kindsOf "NoBase" = [[98, 97, 115, 101]] := by decide +kernel
def kf (h : PH) (d : D) : Option D := match d with
  | .ref p => match h p with
    | some (.exc c _) => some (.rol ((kindsOf c).map D.str))
    | _ => none
  | _ => none
def exD (h : PH) (d : D) : Prop := ∃ p c fs, d = .ref p ∧ h p = some (.exc c fs) ∧ c ∈ x_all
def nms : List (List Nat) := [[116, 101, 120, 116], [114, 111, 119], [99, 104, 97, 110, 103, 101], [99, 104, 97, 110, 103, 101], [112, 97, 112, 101, 114], [112, 97, 112, 101, 114], [114, 111, 119, 115], [109, 97, 107, 101, 115], [116, 101, 120, 116], [116, 114, 101, 101], [112, 108, 97, 99, 101], [109, 97, 107, 101], [103, 114, 101, 97, 116], [102, 111, 114, 109], [98, 97, 115, 101]]
theorem compLoop_id {tg : Tg} {vs : List Nat} {cond : RT} {elt : RE} {stay : PH → Prop} {ρ : Rho} {Q : List D → PH → Prop} {h : PH} (g : D → Option D) (hs : stay h) (xs acc : List D) (st : ∀ x ∈ xs, ∃ ρ1, asg tg x (wipeR ρ vs) = some ρ1 ∧ ∀ N : Option D → PH → Prop, N (g x) h → cond ρ1 h noX fun b h1 => match b with
      | true => elt ρ1 h1 noX fun y h2 => N (some y) h2
      | false => N none h1) (l : acc.length + xs.length ≤ sizeLine) (q : Q (acc ++ xs.filterMap g) h) : compLoop tg vs cond elt stay ρ xs acc h Q := by
  have := compLoop_pure (id : D → D) g hs xs acc st l q
  rwa [List.map_id] at this
theorem bad_of {s : List Nat} (h : Lit.cnt 40 s ≠ Lit.cnt 41 s) : ∃ e, Rd.all s = .bad e := by
  cases e : Rd.all s with
  | bad e2 => exact ⟨e2, rfl⟩
  | ok u =>
    exfalso
    have := all_txt' e
    have w := all_wok (cs := ["Reader"]) (by simp) e
    rw [this] at h
    exact h (bal_txt u w)
theorem cut1 (p : List Nat) (c : Nat) : cutL (p ++ [c]) none (some (-1)) = p := by
  have e : HT.sIx (p ++ [c]).length (p ++ [c]).length (some (-1)) = p.length := by
    unfold HT.sIx
    simp
    try omega
  have e0 : HT.sIx (p ++ [c]).length 0 none = 0 := rfl
  unfold cutL
  rw [e, e0]
  simp
theorem cnt_one (c x : Nat) : Lit.cnt c [x] = if x = c then 1 else 0 := by rw [Lit.cnt_cons]; rfl
theorem gd_int {i : Int} : Gd (.int i) := ⟨rfl, rfl, by simp [dep]⟩
theorem mul3L {p : Addr} {x : D} {h2 : PH} {R' : D → PH → Prop} (e : h2 p = some (.lst [x])) : binD true .mul (.ref p) (.int 3) h2 R' = R' (.rol [x, x, x]) h2 := by
  have e1 : (List.replicate (Int.toNat 3) [x]).flatten = [x, x, x] := rfl
  simp only [binD, rdM, e, newL, e1]
  simp [sz]
theorem b_thing (sps : List DSp) (E : Ds sps) {x : D} (dx : ∀ h, dat h x) (hf : isT x = false) {Z : DEnds} {h : PH} {a0 a1 a2 a3 a4 a5 a6 a7 a8 a9 a11 a12 a13 a14 a15 : Option D} (k : ∀ h', Z.nx [a0, a1, a2, a3, a4, a5, a6, a7, a8, a9, some x, a11, a12, a13, a14, a15] h') :
    rdS sps e_law_f16 Z [a0, a1, a2, a3, a4, a5, a6, a7, a8, a9, some x, a11, a12, a13, a14, a15] h := by
  simp only [e_law_f16, rdS_cons, rdS_ife, rdT_cmp, rdE_comp, rdI_itL, rdE_tup, rdA_cons, rdA_nil, rdE_int]
  refine ⟨by decide, ?_⟩
  have m1 : (1 : Int) % 3 = 1 := by decide
  have m2 : (2 : Int) % 3 = 2 := by decide
  have m3 : (3 : Int) % 3 = 0 := by decide
  have l3 : ∀ (a b c : D), atI [a, b, c] 1 = some b ∧ atI [a, b, c] 2 = some c ∧ atI [a, b, c] 0 = some a := fun a b c => ⟨by simp [atI, ixN], by simp [atI, ixN], by simp [atI, ixN]⟩
  simp only [compLoop, asg_nm, rdC_nil, rdE_call, rdA_cons, rdA_nil, rdE_int, rdE_var, rdE_non, rdE_ix, rdE_lst, rdE_tup, rdE_op, wipeR, List.set_cons_succ, List.set_cons_zero, List.getElem?_cons_zero, List.getElem?_cons_succ, List.nil_append, List.cons_append, newL_t, bin_mod, m1, m2, m3, ixD, (l3 _ _ _).1, (l3 _ _ _).2.1, (l3 _ _ _).2.2]
  have c3 : ∀ (a b c : D), [a, b, c].length ≤ sizeLine := fun a b c => by simp [sz]
  refine ⟨by decide, by decide, c3 _ _ _, by decide, ?_⟩
  refine spAt_ok E.e21 ⟨1, x, .non, rfl, by simp only [dat], .inr (.inl ⟨.inl rfl, dx _, hf, ?_⟩)⟩
  refine ⟨by decide, trivial, by decide, by decide, c3 _ _ _, by decide, ?_⟩
  refine spAt_ok E.e21 ⟨2, x, .tup [], rfl, by simp only [dat, dats], .inr (.inl ⟨.inr (.inl rfl), dx _, hf, ?_⟩)⟩
  refine ⟨by decide, trivial, by decide, by decide, c3 _ _ _, by decide, ?_⟩
  refine spAt_ok E.e21 ⟨3, x, .tup [.int 5], rfl, by simp only [dat, dats, and_self], .inr (.inl ⟨.inr (.inr rfl), dx _, hf, ?_⟩)⟩
  refine ⟨by decide, trivial, ?_⟩
  simp only [rdE_op, rdE_lst, rdE_int, rdE_str, rdA_cons, rdA_nil, newL_t, newL_f]
  refine ⟨by decide, by decide, fun p2 h2 n2 f2 y2 => ?_⟩
  dsimp only
  rw [mul3L f2]
  have gq : Gd (.rol [dTree, dTree, dTree]) := ⟨by decide, by decide, by decide⟩
  rw [cmp_neG gq gq]
  simp only [decide_true, Bool.not_true, rdS_nil]
  exact k _
theorem mulT {fz : Bool} {d : D} {h : PH} {Q : D → PH → Prop} (n : Nat) (h1 : 2 ≤ n) (h2 : n ≤ 1000) : binD fz .mul (.tup [d]) (.int (n : Int)) h Q = Q (.tup (List.replicate n d)) h := by
  have e : ¬ ((n : Int) = 1) := by omega
  have e1 : ∀ n : Nat, (List.replicate n [d]).flatten = List.replicate n d := fun n => by
    induction n with
    | zero => rfl
    | succ n ih => rw [List.replicate_succ, List.flatten_cons, ih, List.replicate_succ]; rfl
  show (if (n : Int) = 1 then Q (.tup [d]) h else [d] ≠ [] ∧ 2 ≤ (n : Int) ∧ (n : Int) ≤ 1000 ∧ [d].length ≤ 1000 ∧ Q (.tup (List.replicate (n : Int).toNat [d]).flatten) h) = _
  rw [if_neg e]
  have a : (2 : Int) ≤ n := by omega
  have b : (n : Int) ≤ 1000 := by omega
  simp [a, b, e1]
def fanT (n : Nat) : T := .node [97] (List.replicate n (.node [98] []))
theorem fan_enc (n : Nat) : D.tup [.str [97], .tup (List.replicate n (.tup [.str [98], .tup []]))] = enc (fanT n) := by
  unfold fanT
  simp only [enc, encs_map, List.map_replicate, encs, List.map_nil]
theorem fan_wok (n : Nat) : wok (fanT n) = true := by simp only [fanT, wok, woks_rep (k := .node [98] []) rfl n]; rfl
theorem fan_size (n : Nat) : size (fanT n) = n + 1 := by
  have e : size (.node [98] []) = 1 := rfl
  unfold fanT
  rw [show size (.node [97] (List.replicate n (.node [98] []))) = 1 + sizes (List.replicate n (.node [98] [])) from rfl, sizes_rep, e]
  omega
theorem dpts_rep (k : T) : ∀ n, dpts (List.replicate n k) ≤ dpt k
  | 0 => by simp [dpts]
  | n + 1 => by
    have := dpts_rep k n
    rw [List.replicate_succ]
    simp only [dpts]
    omega
theorem fan_dpt (n : Nat) : dpt (fanT n) ≤ 2 := by
  have := dpts_rep (.node [98] []) n
  have e : dpt (.node [98] []) = 1 := rfl
  unfold fanT
  simp only [dpt] at *
  omega
theorem body_law (sps : List DSp) (E : Ds sps) (ds h xq Q) (q : spLaw ds h xq Q) : body sps e_law 16 ds h xq Q := by
  obtain ⟨ns, rfl, hn, hQ⟩ := q
  simp only [body, e_law, rdS_cons, startD]
  simp only [e_law_s1, rdS_set, rdE_call, rdA_cons, rdA_nil, rdE_b1, rdE_var, List.map_cons, List.map_nil, List.length_cons, List.length_nil, List.cons_append, List.getElem?_cons_zero, sumD, lenD]
  refine spAt_ok E.e0 ⟨_, _, rfl, by omega, by rw [List.length_map]; omega, fun r r0 r1 => ?_⟩
  simp [e_law_s2]
  intro p1 h1 n1 f1 x1 p2 h2 n2 f2 x2 p3 h3 n3 f3 x3 p4 h4 n4 f4 x4
  have g1 := x4 _ _ (x3 _ _ (x2 _ _ f1))
  have g2 := x4 _ _ (x3 _ _ f2)
  have g3 := x4 _ _ f3
  refine ⟨by decide, ?_⟩
  simp [e_law_s3, ixD, atI, ixN, g1, g2, g3, f4, in_text, in_row, in_change]
  refine ⟨by decide, ?_⟩
  have ga : Gd (D.rol [D.int r, D.int r, D.int 3, D.int r, D.str [112, 108, 97, 99, 101], D.non, D.str [102, 111, 114, 109]]) := ⟨rfl, rfl, by simp [dep, deps]⟩
  simp only [e_law_s4, rdS_ife, rdT_cmp, rdE_var, rdE_lst, rdA_cons, rdA_nil, List.getElem?_cons_zero, List.getElem?_cons_succ, rdE_int, rdE_str, rdE_non, newL_t, cmp_neG ga ga]
  refine ⟨by simp [sz], ?_⟩
  simp [e_law_s5]
  intro p5 h5 n5 f5 x5 p6 h6 n6 f6 x6 p7 h7 n7 f7 x7 p8 h8 n8 f8 x8 p9 h9 n9 f9 x9
  have k5 := x9 _ _ (x8 _ _ (x7 _ _ (x6 _ _ f5)))
  have k6 := x9 _ _ (x8 _ _ (x7 _ _ f6))
  have k7 := x9 _ _ (x8 _ _ f7)
  have k8 := x9 _ _ f8
  have x59 := (((x5.trans x6).trans x7).trans x8).trans x9
  replace g1 := x59 _ _ g1
  replace g2 := x59 _ _ g2
  replace g3 := x59 _ _ g3
  have g4 := x59 _ _ f4
  refine ⟨by decide, ?_⟩
  simp [e_law_s6, ixD, atI, ixN, k5, k6, k7, k8, f9, in_text, in_paper, in_rows, in_makes]
  refine ⟨by decide, ?_⟩
  have gb : Gd (D.rol [D.int r, D.non, D.str [108, 101, 102, 116], D.int r, D.str [97, 116], D.int r, D.int 0]) := ⟨rfl, rfl, by simp [dep, deps]⟩
  simp only [e_law_s7, rdS_ife, rdT_cmp, rdE_var, rdE_lst, rdA_cons, rdA_nil, List.getElem?_cons_zero, List.getElem?_cons_succ, rdE_int, rdE_str, rdE_non, newL_t, cmp_neG gb gb]
  refine ⟨by simp [sz], ?_⟩
  simp [e_law_s8]
  refine ⟨by decide, fun p10 h10 n10 f10 x10 p11 h11 n11 f11 x11 p12 h12 n12 f12 x12 p13 h13 n13 f13 x13 p14 h14 n14 f14 x14 p15 h15 n15 f15 x15 => ?_⟩
  have m10 := x15 _ _ (x14 _ _ (x13 _ _ (x12 _ _ (x11 _ _ f10))))
  have m11 := x15 _ _ (x14 _ _ (x13 _ _ (x12 _ _ f11)))
  have m12 := x15 _ _ (x14 _ _ (x13 _ _ f12))
  have m13 := x15 _ _ (x14 _ _ f13)
  have m14 := x15 _ _ f14
  have xx := ((((x10.trans x11).trans x12).trans x13).trans x14).trans x15
  replace g1 := xx _ _ g1
  replace g2 := xx _ _ g2
  replace g3 := xx _ _ g3
  replace g4 := xx _ _ g4
  replace k5 := xx _ _ k5
  replace k6 := xx _ _ k6
  replace k7 := xx _ _ k7
  replace k8 := xx _ _ k8
  have k9 := xx _ _ f9
  refine ⟨by decide, by decide, ?_⟩
  generalize el : ([D.ref p1, D.ref p2, D.ref p3, D.ref p4, D.ref p5, D.ref p6, D.ref p7, D.ref p8, D.ref p9, D.ref p10, D.ref p11, D.ref p12, D.ref p13, D.ref p14, D.ref p15] : List D) = els
  have ll : els.length = 15 := by rw [← el]; rfl
  have he : ∀ d ∈ els, exD h15 d := by
    rw [← el]
    intro d m
    simp only [List.mem_cons, List.not_mem_nil, or_false] at m
    rcases m with rfl | rfl | rfl | rfl | rfl | rfl | rfl | rfl | rfl | rfl | rfl | rfl | rfl | rfl | rfl
    · exact ⟨_, _, _, rfl, g1, in_text⟩
    · exact ⟨_, _, _, rfl, g2, in_row⟩
    · exact ⟨_, _, _, rfl, g3, in_change⟩
    · exact ⟨_, _, _, rfl, g4, in_change⟩
    · exact ⟨_, _, _, rfl, k5, in_paper⟩
    · exact ⟨_, _, _, rfl, k6, in_paper⟩
    · exact ⟨_, _, _, rfl, k7, in_rows⟩
    · exact ⟨_, _, _, rfl, k8, in_makes⟩
    · exact ⟨_, _, _, rfl, k9, in_text⟩
    · exact ⟨_, _, _, rfl, m10, in_tree⟩
    · exact ⟨_, _, _, rfl, m11, in_place⟩
    · exact ⟨_, _, _, rfl, m12, in_make⟩
    · exact ⟨_, _, _, rfl, m13, in_great⟩
    · exact ⟨_, _, _, rfl, m14, in_form⟩
    · exact ⟨_, _, _, rfl, f15, in_base⟩
  have hk : els.filterMap (kf h15) = nms.map fun s => D.rol [D.str s] := by
    rw [← el]
    simp [kf, g1, g2, g3, g4, k5, k6, k7, k8, k9, m10, m11, m12, m13, m14, f15, k_text, k_row, k_change, k_paper, k_rows, k_makes, k_tree, k_place, k_make, k_great, k_form, k_base, nms]
  simp only [e_law_s9, rdS_set, rdE_lst, rdA_cons, rdA_nil, rdE_str, newL_t, asg_nm, List.set_cons_succ, List.set_cons_zero, rdS_cons]
  refine ⟨by decide, ?_⟩
  simp only [e_law_s10, rdS_ife, rdT_cmp, rdE_comp, rdI_itL, rdE_var, List.getElem?_cons_zero, List.getElem?_cons_succ, rdL_rol]
  refine compLoop_id (kf h15) trivial els [] (fun x hx => ⟨_, asg_nm, fun N hN => ?_⟩) (by rw [ll, sz]; decide) ?_
  · obtain ⟨p, c, fs, rfl, hp, hc⟩ := he x hx
    simp [wipeR]
    refine spAt_ok E.e1 ⟨p, c, fs, rfl, hp, hc, ?_⟩
    have e : kf h15 (.ref p) = some (.rol ((kindsOf c).map D.str)) := by simp [kf, hp]
    rw [e] at hN
    exact hN
  rw [List.nil_append, hk]
  simp only [newL_t, rdE_op, rdE_var, List.getElem?_cons_zero, List.getElem?_cons_succ, rdE_lst, rdE_str, rdA_cons, rdA_nil, bin_addRR]
  refine ⟨by decide, by decide, ?_⟩
  have en : ([D.str [116, 101, 120, 116], D.str [114, 111, 119], D.str [99, 104, 97, 110, 103, 101], D.str [99, 104, 97, 110, 103, 101], D.str [112, 97, 112, 101, 114], D.str [112, 97, 112, 101, 114], D.str [114, 111, 119, 115], D.str [109, 97, 107, 101, 115], D.str [116, 101, 120, 116], D.str [116, 114, 101, 101], D.str [112, 108, 97, 99, 101], D.str [109, 97, 107, 101]] ++ [D.str [103, 114, 101, 97, 116], D.str [102, 111, 114, 109], D.str [98, 97, 115, 101]]) = nms.map D.str := rfl
  rw [en]
  simp only [rdL_rol]
  refine compLoop_pure (stay := fun _ => True) (h := h15) D.str (fun s => some (.rol [.str s])) trivial nms [] (fun s hs => ⟨_, asg_nm, fun N hN => ?_⟩) (by decide) ?_
  · simp [wipeR]
    exact ⟨by decide, hN⟩
  rw [List.nil_append, fm_some]
  have gk : Gd (.rol (nms.map fun s => D.rol [D.str s])) := ⟨rfl, rfl, by simp [dep, deps, nms]⟩
  rw [cmp_neG gk gk]
  simp only [decide_true, Bool.not_true]
  simp only [rdS_nil, rdS_cons]
  simp only [e_law_s11, rdS_set, rdE_op, rdE_var, rdE_int, List.getElem?_cons_zero, List.getElem?_cons_succ, bin_mod, asg_nm, List.set_cons_succ, List.set_cons_zero]
  refine ⟨by decide, ?_⟩
  obtain ⟨M, hM, hr⟩ : ∃ M : Nat, r % 60 = (M : Int) ∧ M < 60 := ⟨(r % 60).toNat, by omega, by omega⟩
  rw [hM]
  clear g1 g2 g3 g4 k5 k6 k7 k8 k9 m10 m11 m12 m13 m14 f15 hk he el f1 f2 f3 f4 f5 f6 f7 f8 f9 f10 f11 f12 f13 f14 en gk ga gb
  have a60 : (60 : Int) + (M : Int) = ((60 + M : Nat) : Int) := by omega
  have a8 : (8 : Int) + (M : Int) = ((8 + M : Nat) : Int) := by omega
  have many : ∀ (p : Addr) (h2 : PH) (R' : D → PH → Prop), h2 p = some (.lst [.str [97]]) → binD true .mul (.ref p) (.int ((60 + M : Nat) : Int)) h2 R' = R' (.rol ((List.replicate (60 + M) [97]).map D.str)) h2 := fun p h2 R' e => by
    have e1 : ∀ n : Nat, (List.replicate n [D.str [97]]).flatten = (List.replicate n [97]).map D.str := fun n => by
      induction n with
      | zero => rfl
      | succ n ih => rw [List.replicate_succ, List.flatten_cons, ih, List.replicate_succ, List.map_cons]; rfl
    simp only [binD, rdM, e, newL, e1, Int.toNat_natCast]
    have c1 : (0 : Int) ≤ ((60 + M : Nat) : Int) := by omega
    have c2 : ((60 + M : Nat) : Int) < 2 ^ 62 := by omega
    have c4 : [D.str [97]].length * (60 + M) ≤ sizeLine := by rw [sz]; simp; omega
    simp only [c1, c2, c4, true_and]
  simp only [e_law_s12, rdS_set, rdS_cons, rdE_op, rdE_mth, rdE_str, rdA_cons, rdA_nil, rdE_lst, rdE_var, rdE_int, newL_f, List.getElem?_cons_zero, List.getElem?_cons_succ, bin_addI, a60]
  refine ⟨rfl, by decide, fun p16 h16 n16 f16 x16 => ?_⟩
  dsimp only
  rw [many _ _ _ f16, join_mthR]
  generalize hg0 : TL.joinL [44] (List.replicate (60 + M) [97]) = jj
  have hgr : [97, 40] ++ jj ++ [41] = txt (wideT (60 + M)) := by
    rw [← hg0]
    have := wide_txt (59 + M)
    rwa [show 59 + M + 1 = 60 + M by omega] at this
  have tl := txt_len (wideT (60 + M)) (wide_wok _)
  rw [wide_size] at tl
  have jl : jj.length + 3 = (txt (wideT (60 + M))).length := by rw [← hgr]; simp
  refine ⟨by simp; omega, ?_⟩
  simp only [bin_addS, asg_nm, List.set_cons_succ, List.set_cons_zero]
  refine ⟨by rw [sz]; simp; omega, by rw [sz]; simp; omega, ?_⟩
  rw [hgr]
  have mul8 : ∀ (a : List Nat) (h2 : PH) (R' : D → PH → Prop), 0 < a.length → a.length ≤ 100 → binD true .mul (.str a) (.int ((8 + M : Nat) : Int)) h2 R' = R' (.str (R (8 + M) a)) h2 := fun a h2 R' e1 e2 => by
    rw [bin_mulS, Int.toNat_natCast]
    have c1 : (1 : Int) ≤ ((8 + M : Nat) : Int) := by omega
    have c2 : ((8 + M : Nat) : Int) ≤ 10000 := by omega
    simp only [c1, c2, e1, e2, true_and]
    rfl
  have hch := chain_txt (8 + M)
  have cl := txt_len (chainT (8 + M)) (chain_wok _)
  rw [chain_size] at cl
  simp only [e_law_s13, rdS_set, rdS_cons, rdE_op, rdE_str, rdE_var, rdE_int, List.getElem?_cons_zero, List.getElem?_cons_succ, bin_addI, a8, mul8 _ _ _ (show 0 < ([98, 40] : List Nat).length by decide) (show ([98, 40] : List Nat).length ≤ 100 by decide), mul8 _ _ _ (show 0 < ([41] : List Nat).length by decide) (show ([41] : List Nat).length ≤ 100 by decide), bin_addS, asg_nm, List.set_cons_succ, List.set_cons_zero]
  refine ⟨by rw [sz, R_len]; simp; omega, by rw [sz, List.length_append, R_len, R_len]; simp; omega, ?_⟩
  rw [hch]
  have mul2 : ∀ (p : Addr) (x : D) (h2 : PH) (R' : D → PH → Prop), h2 p = some (.lst [x]) → binD true .mul (.ref p) (.int 2) h2 R' = R' (.rol [x, x]) h2 := fun p x h2 R' e => by
    have e1 : (List.replicate (Int.toNat 2) [x]).flatten = [x, x] := rfl
    simp only [binD, rdM, e, newL, e1]
    simp [sz]
  have mul3 : ∀ (p : Addr) (x : D) (h2 : PH) (R' : D → PH → Prop), h2 p = some (.lst [x]) → binD true .mul (.ref p) (.int 3) h2 R' = R' (.rol [x, x, x]) h2 := fun p x h2 R' e => by
    have e1 : (List.replicate (Int.toNat 3) [x]).flatten = [x, x, x] := rfl
    simp only [binD, rdM, e, newL, e1]
    simp [sz]
  simp only [e_law_s14, rdS_set, rdS_cons, rdE_op, rdE_str, rdE_lst, rdA_cons, rdA_nil, newL_t, newL_f, rdE_int]
  refine ⟨by decide, by decide, fun p17 h17 n17 f17 x17 => ?_⟩
  dsimp only
  rw [mul2 _ _ _ _ f17]
  refine ⟨by decide, by decide, fun p18 h18 n18 f18 x18 => ?_⟩
  dsimp only
  rw [mul2 _ _ _ _ f18]
  simp only [bin_addRR, newL_t, asg_nm, List.set_cons_succ, List.set_cons_zero]
  refine ⟨by decide, ?_⟩
  simp only [e_law_s15, rdS_ife, rdT_cmp, rdE_comp, rdI_itL, rdE_tup, rdA_cons, rdA_nil, rdE_var, rdE_op, rdE_str, List.getElem?_cons_zero, List.getElem?_cons_succ, bin_addS, rdE_sl, rdO_nil, rdO_neg, rdE_neg, rdE_int]
  have pre : txt (chainT (8 + M)) = (R (8 + M) [98, 40] ++ [98] ++ R (7 + M) [41]) ++ [41] := by
    rw [← hch, show 8 + M = 7 + M + 1 by omega, R_snoc [41] (7 + M)]
    simp
  generalize hpp : R (8 + M) [98, 40] ++ [98] ++ R (7 + M) [41] = pp at pre
  have cutp : ∀ Q' : D → PH → Prop, slD true (.str (txt (chainT (8 + M)))) none (some (-1)) h18 Q' = Q' (.str pp) h18 := fun Q' => by
    rw [Lit.sl_str, pre, cut1]
    have : (pp ++ [41]).length ≤ sizeLine := by rw [← pre, sz]; omega
    simp only [this, true_and]
  rw [cutp]
  have bg : ∃ e, Rd.all (txt (wideT (60 + M)) ++ [41]) = .bad e := bad_of (by
    rw [Lit.cnt_app, Lit.cnt_app, bal_txt _ (wide_wok _), cnt_one, cnt_one]
    simp)
  have bp : ∃ e, Rd.all pp = .bad e := bad_of (fun z => by
    have := bal_txt _ (chain_wok (8 + M))
    rw [pre, Lit.cnt_app, Lit.cnt_app, z, cnt_one, cnt_one] at this
    simp at this)
  have lp : pp.length ≤ 100000 := by
    have := congrArg List.length pre
    simp at this
    omega
  refine ⟨by rw [sz]; simp; omega, by simp [sz], ?_⟩
  have nW : isT (enc (wideT (60 + M))) = false := no_tree (.inl (by rw [wide_size]; omega))
  have nC : isT (enc (chainT (8 + M))) = false := no_tree (.inr (by rw [chain_dpt]; omega))
  have nd : ∀ h, dat h .non := fun h => by simp only [dat]
  simp only [compLoop, asg_nm, rdC_nil, rdE_call, rdA_cons, rdA_nil, rdE_int, rdE_var, rdE_non, wipeR, List.set_cons_succ, List.set_cons_zero, List.getElem?_cons_zero, List.getElem?_cons_succ, List.nil_append, List.cons_append]
  refine spAt_ok E.e21 ⟨0, _, .non, rfl, nd _, .inl ⟨rfl, _, rfl, by omega, .inr ⟨⟨_, all_txt _ (wide_wok _), nW⟩, ?_⟩⟩⟩
  refine ⟨by decide, trivial, ?_⟩
  refine spAt_ok E.e21 ⟨0, _, .non, rfl, nd _, .inl ⟨rfl, _, rfl, by omega, .inr ⟨⟨_, all_txt _ (chain_wok _), nC⟩, ?_⟩⟩⟩
  refine ⟨by decide, trivial, ?_⟩
  refine spAt_ok E.e21 ⟨0, _, .non, rfl, nd _, .inl ⟨rfl, _, rfl, by simp; omega, .inl ⟨bg, ?_⟩⟩⟩
  refine ⟨by decide, trivial, ?_⟩
  refine spAt_ok E.e21 ⟨0, _, .non, rfl, nd _, .inl ⟨rfl, _, rfl, lp, .inl ⟨bp, ?_⟩⟩⟩
  refine ⟨by decide, trivial, ?_⟩
  have gq : Gd (.rol [dTree, dTree, dText, dText]) := ⟨by decide, by decide, by decide⟩
  rw [newL_t, cmp_neG gq gq]
  simp only [decide_true, Bool.not_true, rdS_nil]
  have mulB : ∀ (n : Nat) (d : D) (h2 : PH) (R' : D → PH → Prop), 2 ≤ n → n ≤ 1000 → binD true .mul (.tup [d]) (.int (n : Int)) h2 R' = R' (.tup (List.replicate n d)) h2 := fun n d h2 R' c1 c2 => mulT n c1 c2
  simp only [rdS_cons, e_law_s16, rdS_for_, rdI_itL, rdE_tup, rdA_cons, rdA_nil, rdE_str, rdE_op, rdE_int, rdE_var, rdE_non, List.getElem?_cons_zero, List.getElem?_cons_succ, bin_addI, a60, mulB (60 + M) _ _ _ (by omega) (by omega), fan_enc]
  refine ⟨by decide, by decide, by decide, by decide, by decide, by simp [sz], by simp [sz], ?_⟩
  have n1' : isT (.tup [.str [65], .tup []]) = false := by decide +kernel
  have n2' : isT (enc (fanT (60 + M))) = false := no_tree (.inl (by rw [fan_size]; omega))
  have n3' : isT .non = false := by decide +kernel
  simp only [forLoop, asg_nm, List.set_cons_succ, List.set_cons_zero]
  refine b_thing sps E (fun h => by simp only [dat, dats, List.length_cons, List.length_nil, sz]; decide) n1' fun h19 => ⟨trivial, ?_⟩
  refine b_thing sps E (fun h => dat_enc _ (fan_wok _)) n2' fun h20 => ⟨trivial, ?_⟩
  refine b_thing sps E (fun h => by simp only [dat]) n3' fun h21 => ⟨trivial, ?_⟩
  obtain ⟨n, en, n1_, n2_⟩ : ∃ n : Nat, (1 : Int) + (M : Int) % 59 = (n : Int) ∧ 1 ≤ n ∧ n ≤ 59 := ⟨1 + M % 59, by omega, by omega, by omega⟩
  have mulC : ∀ (d : D) (h2 : PH) (R' : D → PH → Prop), binD true .mul (.tup [d]) (.int (n : Int)) h2 R' = R' (.tup (List.replicate n d)) h2 := fun d h2 R' => by
    by_cases z : n = 1
    · subst z
      rfl
    · exact mulT n (by omega) (by omega)
  simp only [rdS_cons, e_law_s17, rdS_set, rdE_tup, rdA_cons, rdA_nil, rdE_str, rdE_op, rdE_int, rdE_var, List.getElem?_cons_zero, List.getElem?_cons_succ, bin_addI, bin_mod, asg_nm, List.set_cons_succ, List.set_cons_zero, en, mulC, fan_enc]
  refine ⟨by decide, by decide, by decide, by decide, by simp [sz], ?_⟩
  have g : GT (fanT n) := ⟨fan_wok n, by have := fan_dpt n; omega, by rw [fan_size]; omega⟩
  have hno : fa (fanT n) (.tup [.int (r + 60)]) = none := by
    have c1 : 0 ≤ r + 60 := by omega
    have c2 : (List.replicate n (T.node [98] []))[(r + 60).toNat]? = none := List.getElem?_eq_none (by simp; omega)
    simp only [fa, fanT, walkT, c1, if_true, c2]
  simp only [e_law_s18, rdS_ret, rdE_cmp, rdE_comp, rdI_itL, rdE_tup, rdA_cons, rdA_nil, rdE_int]
  refine ⟨by decide, ?_⟩
  simp only [compLoop, asg_nm, rdC_nil, rdE_call, rdA_cons, rdA_nil, rdE_int, rdE_var, rdE_non, rdE_tup, rdE_op, wipeR, List.set_cons_succ, List.set_cons_zero, List.getElem?_cons_zero, List.getElem?_cons_succ, List.nil_append, List.cons_append, bin_addI]
  have dp : ∀ h, dat h (.tup [.int (r + 60)]) := fun h => by simp only [dat, dats, and_self]
  refine ⟨by simp [sz], ?_⟩
  refine spAt_ok E.e21 ⟨1, _, _, rfl, dp _, .inr (.inr (.inl ⟨.inl rfl, _, rfl, g, hno, ?_⟩))⟩
  refine ⟨by decide, trivial, by simp [sz], ?_⟩
  refine spAt_ok E.e21 ⟨2, _, _, rfl, dp _, .inr (.inr (.inl ⟨.inr rfl, _, rfl, g, hno, ?_⟩))⟩
  refine ⟨by decide, trivial, by simp [sz], ?_⟩
  refine spAt_ok E.e21 ⟨3, _, _, rfl, dp _, .inr (.inr (.inr ⟨rfl, _, rfl, g, ?_⟩))⟩
  refine ⟨by decide, trivial, ?_⟩
  simp only [newL_t, rdE_lst, rdA_cons, rdA_nil, rdE_str, rdE_non]
  refine ⟨by decide, by decide, by decide, ?_⟩
  have gq : Gd (.rol [dPlace, dPlace, .non]) := ⟨by decide, by decide, by decide⟩
  rw [cmp_eqG gq gq]
  simp only [decide_true]
  exact hQ _
theorem partx0 {ds h xq Q} (q : spPartx 0 ds h xq Q) : False := by
  obtain ⟨t, _, hd, _⟩ := q
  have := dpt_pos t
  omega
theorem cs_in : ("Reader" : Str) ∈ cl_all := by decide +kernel
end K07
namespace K07
open PySem PySem.Spec PyProof.Rows L2 Lit
def d__law_mixed : He.DefD := ⟨("_law_mixed", none), "_law_mixed", "_law_mixed", defArgs (top 35), defBody (top 35), defScope (top 35), [], []⟩
def d__law_kinds : He.DefD := ⟨("_law_kinds", none), "_law_kinds", "_law_kinds", defArgs (top 36), defBody (top 36), defScope (top 36), [], []⟩
def d_Reader_need : He.DefD := ⟨("Reader", some "need"), "need", "Reader.need", defArgs (cm 32 2), defBody (cm 32 2), defScope (cm 32 2), [], []⟩
def d_Reader_ahead : He.DefD := ⟨("Reader", some "ahead"), "ahead", "Reader.ahead", defArgs (cm 32 1), defBody (cm 32 1), defScope (cm 32 1), [], []⟩
def d_Reader_begin : He.DefD := ⟨("Reader", some "begin"), "begin", "Reader.begin", defArgs (cm 32 3), defBody (cm 32 3), defScope (cm 32 3), [], []⟩
def d_Reader_shut : He.DefD := ⟨("Reader", some "shut"), "shut", "Reader.shut", defArgs (cm 32 4), defBody (cm 32 4), defScope (cm 32 4), [], []⟩
def d_Reader_go_on : He.DefD := ⟨("Reader", some "go_on"), "go_on", "Reader.go_on", defArgs (cm 32 5), defBody (cm 32 5), defScope (cm 32 5), [], []⟩
def d_Reader_whole : He.DefD := ⟨("Reader", some "whole"), "whole", "Reader.whole", defArgs (cm 32 6), defBody (cm 32 6), defScope (cm 32 6), [], []⟩
def d_is_name : He.DefD := ⟨("is_name", none), "is_name", "is_name", defArgs (top 19), defBody (top 19), defScope (top 19), [], []⟩
def d_parts_looked : He.DefD := ⟨("parts_looked", none), "parts_looked", "parts_looked", defArgs (top 23), defBody (top 23), defScope (top 23), [], []⟩
def d_is_tree : He.DefD := ⟨("is_tree", none), "is_tree", "is_tree", defArgs (top 24), defBody (top 24), defScope (top 24), [], []⟩
def d_need_tree : He.DefD := ⟨("need_tree", none), "need_tree", "need_tree", defArgs (top 25), defBody (top 25), defScope (top 25), [], []⟩
def d_Reader___init__ : He.DefD := ⟨("Reader", some "__init__"), "__init__", "Reader.__init__", defArgs (cm 32 0), defBody (cm 32 0), defScope (cm 32 0), [], []⟩
def d_read_tree : He.DefD := ⟨("read_tree", none), "read_tree", "read_tree", defArgs (top 33), defBody (top 33), defScope (top 33), [], []⟩
def d_is_whole : He.DefD := ⟨("is_whole", none), "is_whole", "is_whole", defArgs (top 17), defBody (top 17), defScope (top 17), [], []⟩
def d_is_among : He.DefD := ⟨("is_among", none), "is_among", "is_among", defArgs (top 18), defBody (top 18), defScope (top 18), [], []⟩
def d_found_at : He.DefD := ⟨("found_at", none), "found_at", "found_at", defArgs (top 26), defBody (top 26), defScope (top 26), [], []⟩
def d_part_at : He.DefD := ⟨("part_at", none), "part_at", "part_at", defArgs (top 27), defBody (top 27), defScope (top 27), [], []⟩
def d_many_at : He.DefD := ⟨("many_at", none), "many_at", "many_at", defArgs (top 28), defBody (top 28), defScope (top 28), [], []⟩
def d_part_text : He.DefD := ⟨("part_text", none), "part_text", "part_text", defArgs (top 30), defBody (top 30), defScope (top 30), [], []⟩
def d_tree_text : He.DefD := ⟨("tree_text", none), "tree_text", "tree_text", defArgs (top 31), defBody (top 31), defScope (top 31), [], []⟩
def d__law_told : He.DefD := ⟨("_law_told", none), "_law_told", "_law_told", defArgs (top 37), defBody (top 37), defScope (top 37), [], []⟩
def d_law : He.DefD := ⟨("law", none), "law", "law", defArgs (top 38), defBody (top 38), defScope (top 38), [], []⟩
def dx_BadText : He.DefD := ⟨("BadText", some "__init__"), "__init__", "BadText.__init__", defArgs (cm 2 0), defBody (cm 2 0), defScope (cm 2 0), [], []⟩
def dx_BadRow : He.DefD := ⟨("BadRow", some "__init__"), "__init__", "BadRow.__init__", defArgs (cm 3 0), defBody (cm 3 0), defScope (cm 3 0), [], []⟩
def dx_BadChange : He.DefD := ⟨("BadChange", some "__init__"), "__init__", "BadChange.__init__", defArgs (cm 5 0), defBody (cm 5 0), defScope (cm 5 0), [], []⟩
def dx_BadPaper : He.DefD := ⟨("BadPaper", some "__init__"), "__init__", "BadPaper.__init__", defArgs (cm 9 0), defBody (cm 9 0), defScope (cm 9 0), [], []⟩
def dx_BadRows : He.DefD := ⟨("BadRows", some "__init__"), "__init__", "BadRows.__init__", defArgs (cm 10 0), defBody (cm 10 0), defScope (cm 10 0), [], []⟩
def dx_BadMakes : He.DefD := ⟨("BadMakes", some "__init__"), "__init__", "BadMakes.__init__", defArgs (cm 12 0), defBody (cm 12 0), defScope (cm 12 0), [], []⟩
def fnL : List He.DefD := [d__law_mixed, d__law_kinds, d_Reader_need, d_Reader_ahead, d_Reader_begin, d_Reader_shut, d_Reader_go_on, d_Reader_whole, d_is_name, d_parts_looked, d_is_tree, d_need_tree, d_Reader___init__, d_read_tree, d_is_whole, d_is_among, d_found_at, d_part_at, d_many_at, d_part_text, d_tree_text, d__law_told, d_law, dx_BadText, dx_BadRow, dx_BadChange, dx_BadPaper, dx_BadRows, dx_BadMakes]
def faL : List He.Fa := [.glo "_law_mixed", .glo "_law_kinds", .glo "is_name", .glo "parts_looked", .glo "is_tree", .glo "need_tree", .glo "read_tree", .glo "is_whole", .glo "is_among", .glo "found_at", .glo "part_at", .glo "many_at", .glo "part_text", .glo "tree_text", .glo "_law_told", .glo "law", .free "isinstance", .free "ValueError", .free "tuple", .free "len", .free "str", .free "all", .free "int", .free "bool", .free "sum", .int "MOST_LETTERS" 8, .int "MOST_DEEP" 8, .int "MOST_PARTS" 60, .str "LETTERS" (mkS [97, 98, 99, 100, 101, 102, 103, 104, 105, 106, 107, 108, 109, 110, 111, 112, 113, 114, 115, 116, 117, 118, 119, 120, 121, 122]), .glo "MarkError", .glo "BadText", .glo "BadRow", .glo "BadTree", .glo "BadChange", .glo "OutOfPlace", .glo "NoMake", .glo "TooGreat", .glo "BadPaper", .glo "BadRows", .glo "BadForm", .glo "BadMakes", .glo "NoBase", .meth "Reader" "need", .meth "Reader" "ahead", .meth "Reader" "begin", .meth "Reader" "shut", .meth "Reader" "go_on", .meth "Reader" "whole", .mkr "Reader", .cls "Reader", .glo "Reader", .noat "Reader" "text", .noat "Reader" "spot", .noat "Reader" "words", .noat "Reader" "inner", .noat "Reader" "is_bare"]
def loose : List PySem.Str := ([("MarkError" : PySem.Str), ("BadText" : PySem.Str), ("BadRow" : PySem.Str), ("BadTree" : PySem.Str), ("BadChange" : PySem.Str), ("OutOfPlace" : PySem.Str), ("NoMake" : PySem.Str), ("TooGreat" : PySem.Str), ("BadPaper" : PySem.Str), ("BadRows" : PySem.Str), ("BadForm" : PySem.Str), ("BadMakes" : PySem.Str), ("NoBase" : PySem.Str), ("LETTERS" : PySem.Str), ("MOST_LETTERS" : PySem.Str), ("is_whole" : PySem.Str), ("is_among" : PySem.Str), ("is_name" : PySem.Str), ("MOST_PARTS" : PySem.Str), ("MOST_DEEP" : PySem.Str)] : List PySem.Str) ++ ([("parts_looked" : PySem.Str), ("is_tree" : PySem.Str), ("need_tree" : PySem.Str), ("found_at" : PySem.Str), ("part_at" : PySem.Str), ("many_at" : PySem.Str), ("part_text" : PySem.Str), ("tree_text" : PySem.Str), ("Reader" : PySem.Str), ("read_tree" : PySem.Str), ("_law_mixed" : PySem.Str), ("_law_kinds" : PySem.Str), ("_law_told" : PySem.Str)] : List PySem.Str)
abbrev Rw : PySem.W.OpenRow := PySem.W.OpenLaw.row PySem.Challenge.rw_marksthrough_k07_refusals_by_hand
abbrev fxL : PySem.W.Frag → Bool := exsB x_all
abbrev csL : Cons := ⟨[], []⟩
abbrev hk : PySem.W.Hook := hookX 5 faL fnL fxL csL
def ob (s : PySem.W.SharedT) : AlX := obsXG 5 faL fnL fxL csL (HandSHeadRun.getT s)
theorem ob_eq (s : PySem.W.SharedT) : ob s = hk.obs s.abs := obsXG_eq (HandSHeadRun.getT_eq s)
theorem run (w : World) : HandSHeadRun.RunEq Rw (PySem.W.view Rw.prog [38]) hk ob 30000 loose w := by
  intro os
  kernel_rfl
theorem facts {P : Program} {w : World} {K : PySem.W.Frag} {h : Heap} {mg : Str → Option Value} {f : Addr} (X : K.In h) (Gn : h.Ns mainGlobals mg) (hfa : mg ("law" : Str) = some (.ref f)) (c0 : SaysX faL fnL fxL csL w K) :
    ∃ fd : FuncData, (∀ (s : Shared) (v : Value), BindsTo s fd ⟨[v], []⟩ [("script", v)]) ∧ ∀ base : Heap, K.In base → base.Ns mainGlobals mg → FnG P w K mg base 47 f fd ["script"] (liftSp K spLaw) := by
  have c := c0.d
  have cx := c0.x
  obtain ⟨fd0, F0⟩ := c.def_ 0 (d := d__law_mixed) rfl
  obtain ⟨fd1, F1⟩ := c.def_ 1 (d := d__law_kinds) rfl
  obtain ⟨fd2, F2⟩ := c.def_ 2 (d := d_Reader_need) rfl
  obtain ⟨fd3, F3⟩ := c.def_ 3 (d := d_Reader_ahead) rfl
  obtain ⟨fd4, F4⟩ := c.def_ 4 (d := d_Reader_begin) rfl
  obtain ⟨fd5, F5⟩ := c.def_ 5 (d := d_Reader_shut) rfl
  obtain ⟨fd6, F6⟩ := c.def_ 6 (d := d_Reader_go_on) rfl
  obtain ⟨fd7, F7⟩ := c.def_ 7 (d := d_Reader_whole) rfl
  obtain ⟨fd8, F8⟩ := c.def_ 8 (d := d_is_name) rfl
  obtain ⟨fd9, F9⟩ := c.def_ 9 (d := d_parts_looked) rfl
  obtain ⟨fd10, F10⟩ := c.def_ 10 (d := d_is_tree) rfl
  obtain ⟨fd11, F11⟩ := c.def_ 11 (d := d_need_tree) rfl
  obtain ⟨fd12, F12⟩ := c.def_ 12 (d := d_Reader___init__) rfl
  obtain ⟨fd13, F13⟩ := c.def_ 13 (d := d_read_tree) rfl
  obtain ⟨fd14, F14⟩ := c.def_ 14 (d := d_is_whole) rfl
  obtain ⟨fd15, F15⟩ := c.def_ 15 (d := d_is_among) rfl
  obtain ⟨fd16, F16⟩ := c.def_ 16 (d := d_found_at) rfl
  obtain ⟨fd17, F17⟩ := c.def_ 17 (d := d_part_at) rfl
  obtain ⟨fd18, F18⟩ := c.def_ 18 (d := d_many_at) rfl
  obtain ⟨fd19, F19⟩ := c.def_ 19 (d := d_part_text) rfl
  obtain ⟨fd20, F20⟩ := c.def_ 20 (d := d_tree_text) rfl
  obtain ⟨fd21, F21⟩ := c.def_ 21 (d := d__law_told) rfl
  obtain ⟨fd22, F22⟩ := c.def_ 22 (d := d_law) rfl
  obtain ⟨fx0, X0⟩ := c.def_ 23 (d := dx_BadText) rfl
  obtain ⟨fx1, X1⟩ := c.def_ 24 (d := dx_BadRow) rfl
  obtain ⟨fx2, X2⟩ := c.def_ 25 (d := dx_BadChange) rfl
  obtain ⟨fx3, X3⟩ := c.def_ 26 (d := dx_BadPaper) rfl
  obtain ⟨fx4, X4⟩ := c.def_ 27 (d := dx_BadRows) rfl
  obtain ⟨fx5, X5⟩ := c.def_ 28 (d := dx_BadMakes) rfl
  have e := hfa.symm.trans (He.glo_ok X Gn (c.fact 15 (f := .glo "law") rfl))
  cases e
  have b := FunD.bindsA (ps := ["script"]) F22 fun _ _ _ _ _ _ us hl => match us, hl with | [_], _ => rfl
  refine ⟨fd22, fun s v => b s [v] rfl, fun base XB GB => ?_⟩
  have a0 : AllOk P w K mg base 2 [] := trivial
  have ek := exk_of XB GB c (l := x_all) (by decide +kernel) cx
  have ep := exp_of (l := x_all) cx
  have ek0 : ∀ x ∈ ([] : List Str), ExK K mg x := fun _ hx => nomatch hx
  have ep0 : ∀ x ∈ ([] : List Str), ∀ y ∈ ([] : List Str), ExP K x y := fun _ hx => nomatch hx
  have ow : Own P w K mg base 2 x_all := (Own.cons0 (x := "MarkError") (Own.cons (x := "BadText") (fs := ["at"]) (Own.cons (x := "BadRow") (fs := ["row", "word"]) (Own.cons0 (x := "BadTree") (Own.cons (x := "BadChange") (fs := ["at", "why"]) (Own.cons0 (x := "OutOfPlace") (Own.cons0 (x := "NoMake") (Own.cons0 (x := "TooGreat") (Own.cons (x := "BadPaper") (fs := ["place"]) (Own.cons (x := "BadRows") (fs := ["hand", "at", "why"]) (Own.cons0 (x := "BadForm") (Own.cons (x := "BadMakes") (fs := ["number"]) (Own.cons0 (x := "NoBase") Own.nil rfl) rfl (Nat.le_refl 2) (own_of cx (by decide +kernel) rfl X5 (by decide +kernel) (by decide +kernel) (He.glo_ok XB GB (c.fact 29 (f := .glo "MarkError") rfl)) (X5.bindsN fun _ _ _ _ _ _ us hl => match us, hl with | [_, _], _ => rfl))) rfl) rfl (Nat.le_refl 2) (own_of cx (by decide +kernel) rfl X4 (by decide +kernel) (by decide +kernel) (He.glo_ok XB GB (c.fact 29 (f := .glo "MarkError") rfl)) (X4.bindsN fun _ _ _ _ _ _ us hl => match us, hl with | [_, _, _, _], _ => rfl))) rfl (Nat.le_refl 2) (own_of cx (by decide +kernel) rfl X3 (by decide +kernel) (by decide +kernel) (He.glo_ok XB GB (c.fact 29 (f := .glo "MarkError") rfl)) (X3.bindsN fun _ _ _ _ _ _ us hl => match us, hl with | [_, _], _ => rfl))) rfl) rfl) rfl) rfl (Nat.le_refl 2) (own_of cx (by decide +kernel) rfl X2 (by decide +kernel) (by decide +kernel) (He.glo_ok XB GB (c.fact 29 (f := .glo "MarkError") rfl)) (X2.bindsN fun _ _ _ _ _ _ us hl => match us, hl with | [_, _, _], _ => rfl))) rfl) rfl (Nat.le_refl 2) (own_of cx (by decide +kernel) rfl X1 (by decide +kernel) (by decide +kernel) (He.glo_ok XB GB (c.fact 29 (f := .glo "MarkError") rfl)) (X1.bindsN fun _ _ _ _ _ _ us hl => match us, hl with | [_, _, _], _ => rfl))) rfl (Nat.le_refl 2) (own_of cx (by decide +kernel) rfl X0 (by decide +kernel) (by decide +kernel) (He.glo_ok XB GB (c.fact 29 (f := .glo "MarkError") rfl)) (X0.bindsN fun _ _ _ _ _ _ us hl => match us, hl with | [_, _], _ => rfl))) rfl)
  have ew0 : ∀ {k : Nat}, Own P w K mg base k [] := Own.nil
  have ck := clk_of c (cl := cl_all) (fl := fl_all) (by decide +kernel)
  have ck0 : ∀ x ∈ ([] : List Str), ClK K [] x := fun _ hx => nomatch hx
  have o0 := okd_of (P := P) (w := w) (base := base) (N := n__law_mixed) (ps := ["cell", "k"]) (fns := []) (gi := i__law_mixed) (gs := s__law_mixed) (bl := b__law_mixed) (e := e__law_mixed) (sp := spMixed) F0 (He.glo_ok XB GB (c.fact 0 (f := .glo "_law_mixed") rfl)) sc__law_mixed a0
    (blt_of XB GB c (by decide +kernel)) (gis_of XB GB c (by decide +kernel)) (gss_of XB GB c (by decide +kernel)) (ex := x__law_mixed) ek0 ep0 (cl := cl__law_mixed) (fl := fl__law_mixed) ck0 ew0 (gt := gt__law_mixed) (gts_of XB GB c0 (by decide +kernel)) (gd := gd__law_mixed) (gds_of XB GB c0 (by decide +kernel)) c__law_mixed (F0.bindsN fun _ _ _ _ _ _ us hl => match us, hl with | [_, _], _ => rfl)
    (fun ds h xq Q q => by simp only [spMixed] at q; first | (obtain ⟨_, rfl, _⟩ := q; rfl) | (obtain ⟨_, _, rfl, _⟩ := q; rfl) | (obtain ⟨_, _, _, rfl, _⟩ := q; rfl) | (obtain ⟨_, _, _, _, rfl, _⟩ := q; rfl) | (obtain ⟨_, _, _, _, _, rfl, _⟩ := q; rfl) | (obtain ⟨_, _, _, _, _, _, rfl, _⟩ := q; rfl) | (obtain ⟨_, _, _, _, _, _, _, rfl, _⟩ := q; rfl) | (obtain ⟨_, _, _, _, _, _, _, _, rfl, _⟩ := q; rfl)) (fun ds h xq Q q => b_mixed _ ds h xq Q q)
  have a1 : AllOk P w K mg base 3 [(("_law_mixed", none), spMixed)] := (a0.up (Nat.le_add_right _ _)).snoc o0.2
  have o1 := okd_of (P := P) (w := w) (base := base) (N := n__law_kinds) (ps := ["error"]) (fns := [(("_law_mixed", none), spMixed)]) (gi := i__law_kinds) (gs := s__law_kinds) (bl := b__law_kinds) (e := e__law_kinds) (sp := (spKinds x_all)) F1 (He.glo_ok XB GB (c.fact 1 (f := .glo "_law_kinds") rfl)) sc__law_kinds a1
    (blt_of XB GB c (by decide +kernel)) (gis_of XB GB c (by decide +kernel)) (gss_of XB GB c (by decide +kernel)) (ex := x__law_kinds) ek ep (cl := cl__law_kinds) (fl := fl__law_kinds) ck0 (ow.up (by decide : 2 ≤ 3)) (gt := gt__law_kinds) (gts_of XB GB c0 (by decide +kernel)) (gd := gd__law_kinds) (gds_of XB GB c0 (by decide +kernel)) c__law_kinds (F1.bindsN fun _ _ _ _ _ _ us hl => match us, hl with | [_], _ => rfl)
    (fun ds h xq Q q => by simp only [spKinds] at q; first | (obtain ⟨_, rfl, _⟩ := q; rfl) | (obtain ⟨_, _, rfl, _⟩ := q; rfl) | (obtain ⟨_, _, _, rfl, _⟩ := q; rfl) | (obtain ⟨_, _, _, _, rfl, _⟩ := q; rfl) | (obtain ⟨_, _, _, _, _, rfl, _⟩ := q; rfl) | (obtain ⟨_, _, _, _, _, _, rfl, _⟩ := q; rfl) | (obtain ⟨_, _, _, _, _, _, _, rfl, _⟩ := q; rfl) | (obtain ⟨_, _, _, _, _, _, _, _, rfl, _⟩ := q; rfl)) (fun ds h xq Q q => b_kinds _ x_all ds h xq Q q)
  have a2 : AllOk P w K mg base 4 [(("_law_mixed", none), spMixed), (("_law_kinds", none), (spKinds x_all))] := (a1.up (Nat.le_add_right _ _)).snoc o1.2
  have o2 := okd_m (cn := "Reader") (m := "need") (P := P) (w := w) (base := base) (N := n_Reader_need) (ps := ["self", "is_good"]) (fns := [(("_law_mixed", none), spMixed), (("_law_kinds", none), (spKinds x_all))]) (gi := i_Reader_need) (gs := s_Reader_need) (bl := b_Reader_need) (e := e_Reader_need) (sp := spRneed) F2 (fat_meth (m := "need") (by decide) (c.fact 42 (f := .meth "Reader" "need") rfl)) sc_Reader_need a2
    (blt_of XB GB c (by decide +kernel)) (gis_of XB GB c (by decide +kernel)) (gss_of XB GB c (by decide +kernel)) (ex := x_Reader_need) ek ep (cl := cl_Reader_need) (fl := fl_Reader_need) ck (ow.up (by decide : 2 ≤ 4)) (gt := gt_Reader_need) (gts_of XB GB c0 (by decide +kernel)) (gd := gd_Reader_need) (gds_of XB GB c0 (by decide +kernel)) c_Reader_need (F2.bindsN fun _ _ _ _ _ _ us hl => match us, hl with | [_, _], _ => rfl)
    (fun ds h xq Q q => by simp only [spRneed] at q; first | (obtain ⟨_, rfl, _⟩ := q; rfl) | (obtain ⟨_, _, rfl, _⟩ := q; rfl) | (obtain ⟨_, _, _, rfl, _⟩ := q; rfl) | (obtain ⟨_, _, _, _, rfl, _⟩ := q; rfl) | (obtain ⟨_, _, _, _, _, rfl, _⟩ := q; rfl) | (obtain ⟨_, _, _, _, _, _, rfl, _⟩ := q; rfl) | (obtain ⟨_, _, _, _, _, _, _, rfl, _⟩ := q; rfl) | (obtain ⟨_, _, _, _, _, _, _, _, rfl, _⟩ := q; rfl)) (fun ds h xq Q q => b_rneed cs_in ds h xq Q q)
  have a3 : AllOk P w K mg base 6 [(("_law_mixed", none), spMixed), (("_law_kinds", none), (spKinds x_all)), (("Reader", some "need"), spRneed)] := (a2.up (Nat.le_add_right _ _)).snoc o2.2
  have o3 := okd_m (cn := "Reader") (m := "ahead") (P := P) (w := w) (base := base) (N := n_Reader_ahead) (ps := ["self"]) (fns := [(("_law_mixed", none), spMixed), (("_law_kinds", none), (spKinds x_all)), (("Reader", some "need"), spRneed)]) (gi := i_Reader_ahead) (gs := s_Reader_ahead) (bl := b_Reader_ahead) (e := e_Reader_ahead) (sp := spAhead) F3 (fat_meth (m := "ahead") (by decide) (c.fact 43 (f := .meth "Reader" "ahead") rfl)) sc_Reader_ahead a3
    (blt_of XB GB c (by decide +kernel)) (gis_of XB GB c (by decide +kernel)) (gss_of XB GB c (by decide +kernel)) (ex := x_Reader_ahead) ek0 ep0 (cl := cl_Reader_ahead) (fl := fl_Reader_ahead) ck ew0 (gt := gt_Reader_ahead) (gts_of XB GB c0 (by decide +kernel)) (gd := gd_Reader_ahead) (gds_of XB GB c0 (by decide +kernel)) c_Reader_ahead (F3.bindsN fun _ _ _ _ _ _ us hl => match us, hl with | [_], _ => rfl)
    (fun ds h xq Q q => by simp only [spAhead] at q; first | (obtain ⟨_, rfl, _⟩ := q; rfl) | (obtain ⟨_, _, rfl, _⟩ := q; rfl) | (obtain ⟨_, _, _, rfl, _⟩ := q; rfl) | (obtain ⟨_, _, _, _, rfl, _⟩ := q; rfl) | (obtain ⟨_, _, _, _, _, rfl, _⟩ := q; rfl) | (obtain ⟨_, _, _, _, _, _, rfl, _⟩ := q; rfl) | (obtain ⟨_, _, _, _, _, _, _, rfl, _⟩ := q; rfl) | (obtain ⟨_, _, _, _, _, _, _, _, rfl, _⟩ := q; rfl)) (fun ds h xq Q q => b_ahead cs_in ds h xq Q q)
  have a4 : AllOk P w K mg base 8 [(("_law_mixed", none), spMixed), (("_law_kinds", none), (spKinds x_all)), (("Reader", some "need"), spRneed), (("Reader", some "ahead"), spAhead)] := (a3.up (Nat.le_add_right _ _)).snoc o3.2
  have o4 := okd_m (cn := "Reader") (m := "begin") (P := P) (w := w) (base := base) (N := n_Reader_begin) (ps := ["self"]) (fns := [(("_law_mixed", none), spMixed), (("_law_kinds", none), (spKinds x_all)), (("Reader", some "need"), spRneed), (("Reader", some "ahead"), spAhead)]) (gi := i_Reader_begin) (gs := s_Reader_begin) (bl := b_Reader_begin) (e := e_Reader_begin) (sp := spBegin) F4 (fat_meth (m := "begin") (by decide) (c.fact 44 (f := .meth "Reader" "begin") rfl)) sc_Reader_begin a4
    (blt_of XB GB c (by decide +kernel)) (gis_of XB GB c (by decide +kernel)) (gss_of XB GB c (by decide +kernel)) (ex := x_Reader_begin) ek0 ep0 (cl := cl_Reader_begin) (fl := fl_Reader_begin) ck ew0 (gt := gt_Reader_begin) (gts_of XB GB c0 (by decide +kernel)) (gd := gd_Reader_begin) (gds_of XB GB c0 (by decide +kernel)) c_Reader_begin (F4.bindsN fun _ _ _ _ _ _ us hl => match us, hl with | [_], _ => rfl)
    (fun ds h xq Q q => by simp only [spBegin] at q; first | (obtain ⟨_, rfl, _⟩ := q; rfl) | (obtain ⟨_, _, rfl, _⟩ := q; rfl) | (obtain ⟨_, _, _, rfl, _⟩ := q; rfl) | (obtain ⟨_, _, _, _, rfl, _⟩ := q; rfl) | (obtain ⟨_, _, _, _, _, rfl, _⟩ := q; rfl) | (obtain ⟨_, _, _, _, _, _, rfl, _⟩ := q; rfl) | (obtain ⟨_, _, _, _, _, _, _, rfl, _⟩ := q; rfl) | (obtain ⟨_, _, _, _, _, _, _, _, rfl, _⟩ := q; rfl)) (fun ds h xq Q q => b_begin cs_in 2 3 rfl rfl ds h xq Q q)
  have a5 : AllOk P w K mg base 10 [(("_law_mixed", none), spMixed), (("_law_kinds", none), (spKinds x_all)), (("Reader", some "need"), spRneed), (("Reader", some "ahead"), spAhead), (("Reader", some "begin"), spBegin)] := (a4.up (Nat.le_add_right _ _)).snoc o4.2
  have o5 := okd_m (cn := "Reader") (m := "shut") (P := P) (w := w) (base := base) (N := n_Reader_shut) (ps := ["self"]) (fns := [(("_law_mixed", none), spMixed), (("_law_kinds", none), (spKinds x_all)), (("Reader", some "need"), spRneed), (("Reader", some "ahead"), spAhead), (("Reader", some "begin"), spBegin)]) (gi := i_Reader_shut) (gs := s_Reader_shut) (bl := b_Reader_shut) (e := e_Reader_shut) (sp := spShut) F5 (fat_meth (m := "shut") (by decide) (c.fact 45 (f := .meth "Reader" "shut") rfl)) sc_Reader_shut a5
    (blt_of XB GB c (by decide +kernel)) (gis_of XB GB c (by decide +kernel)) (gss_of XB GB c (by decide +kernel)) (ex := x_Reader_shut) ek0 ep0 (cl := cl_Reader_shut) (fl := fl_Reader_shut) ck ew0 (gt := gt_Reader_shut) (gts_of XB GB c0 (by decide +kernel)) (gd := gd_Reader_shut) (gds_of XB GB c0 (by decide +kernel)) c_Reader_shut (F5.bindsN fun _ _ _ _ _ _ us hl => match us, hl with | [_], _ => rfl)
    (fun ds h xq Q q => by simp only [spShut] at q; first | (obtain ⟨_, rfl, _⟩ := q; rfl) | (obtain ⟨_, _, rfl, _⟩ := q; rfl) | (obtain ⟨_, _, _, rfl, _⟩ := q; rfl) | (obtain ⟨_, _, _, _, rfl, _⟩ := q; rfl) | (obtain ⟨_, _, _, _, _, rfl, _⟩ := q; rfl) | (obtain ⟨_, _, _, _, _, _, rfl, _⟩ := q; rfl) | (obtain ⟨_, _, _, _, _, _, _, rfl, _⟩ := q; rfl) | (obtain ⟨_, _, _, _, _, _, _, _, rfl, _⟩ := q; rfl)) (fun ds h xq Q q => b_shut cs_in ds h xq Q q)
  have a6 : AllOk P w K mg base 12 [(("_law_mixed", none), spMixed), (("_law_kinds", none), (spKinds x_all)), (("Reader", some "need"), spRneed), (("Reader", some "ahead"), spAhead), (("Reader", some "begin"), spBegin), (("Reader", some "shut"), spShut)] := (a5.up (Nat.le_add_right _ _)).snoc o5.2
  have o6 := okd_m (cn := "Reader") (m := "go_on") (P := P) (w := w) (base := base) (N := n_Reader_go_on) (ps := ["self"]) (fns := [(("_law_mixed", none), spMixed), (("_law_kinds", none), (spKinds x_all)), (("Reader", some "need"), spRneed), (("Reader", some "ahead"), spAhead), (("Reader", some "begin"), spBegin), (("Reader", some "shut"), spShut)]) (gi := i_Reader_go_on) (gs := s_Reader_go_on) (bl := b_Reader_go_on) (e := e_Reader_go_on) (sp := spGoon) F6 (fat_meth (m := "go_on") (by decide) (c.fact 46 (f := .meth "Reader" "go_on") rfl)) sc_Reader_go_on a6
    (blt_of XB GB c (by decide +kernel)) (gis_of XB GB c (by decide +kernel)) (gss_of XB GB c (by decide +kernel)) (ex := x_Reader_go_on) ek0 ep0 (cl := cl_Reader_go_on) (fl := fl_Reader_go_on) ck ew0 (gt := gt_Reader_go_on) (gts_of XB GB c0 (by decide +kernel)) (gd := gd_Reader_go_on) (gds_of XB GB c0 (by decide +kernel)) c_Reader_go_on (F6.bindsN fun _ _ _ _ _ _ us hl => match us, hl with | [_], _ => rfl)
    (fun ds h xq Q q => by simp only [spGoon] at q; first | (obtain ⟨_, rfl, _⟩ := q; rfl) | (obtain ⟨_, _, rfl, _⟩ := q; rfl) | (obtain ⟨_, _, _, rfl, _⟩ := q; rfl) | (obtain ⟨_, _, _, _, rfl, _⟩ := q; rfl) | (obtain ⟨_, _, _, _, _, rfl, _⟩ := q; rfl) | (obtain ⟨_, _, _, _, _, _, rfl, _⟩ := q; rfl) | (obtain ⟨_, _, _, _, _, _, _, rfl, _⟩ := q; rfl) | (obtain ⟨_, _, _, _, _, _, _, _, rfl, _⟩ := q; rfl)) (fun ds h xq Q q => b_goon cs_in 2 3 4 5 rfl rfl rfl rfl ds h xq Q q)
  have a7 : AllOk P w K mg base 14 [(("_law_mixed", none), spMixed), (("_law_kinds", none), (spKinds x_all)), (("Reader", some "need"), spRneed), (("Reader", some "ahead"), spAhead), (("Reader", some "begin"), spBegin), (("Reader", some "shut"), spShut), (("Reader", some "go_on"), spGoon)] := (a6.up (Nat.le_add_right _ _)).snoc o6.2
  have o7 := okd_m (cn := "Reader") (m := "whole") (P := P) (w := w) (base := base) (N := n_Reader_whole) (ps := ["self"]) (fns := [(("_law_mixed", none), spMixed), (("_law_kinds", none), (spKinds x_all)), (("Reader", some "need"), spRneed), (("Reader", some "ahead"), spAhead), (("Reader", some "begin"), spBegin), (("Reader", some "shut"), spShut), (("Reader", some "go_on"), spGoon)]) (gi := i_Reader_whole) (gs := s_Reader_whole) (bl := b_Reader_whole) (e := e_Reader_whole) (sp := spRwhole) F7 (fat_meth (m := "whole") (by decide) (c.fact 47 (f := .meth "Reader" "whole") rfl)) sc_Reader_whole a7
    (blt_of XB GB c (by decide +kernel)) (gis_of XB GB c (by decide +kernel)) (gss_of XB GB c (by decide +kernel)) (ex := x_Reader_whole) ek0 ep0 (cl := cl_Reader_whole) (fl := fl_Reader_whole) ck ew0 (gt := gt_Reader_whole) (gts_of XB GB c0 (by decide +kernel)) (gd := gd_Reader_whole) (gds_of XB GB c0 (by decide +kernel)) c_Reader_whole (F7.bindsN fun _ _ _ _ _ _ us hl => match us, hl with | [_], _ => rfl)
    (fun ds h xq Q q => by simp only [spRwhole] at q; first | (obtain ⟨_, rfl, _⟩ := q; rfl) | (obtain ⟨_, _, rfl, _⟩ := q; rfl) | (obtain ⟨_, _, _, rfl, _⟩ := q; rfl) | (obtain ⟨_, _, _, _, rfl, _⟩ := q; rfl) | (obtain ⟨_, _, _, _, _, rfl, _⟩ := q; rfl) | (obtain ⟨_, _, _, _, _, _, rfl, _⟩ := q; rfl) | (obtain ⟨_, _, _, _, _, _, _, rfl, _⟩ := q; rfl) | (obtain ⟨_, _, _, _, _, _, _, _, rfl, _⟩ := q; rfl)) (fun ds h xq Q q => b_rwhole cs_in 2 3 4 5 6 rfl rfl rfl rfl rfl ds h xq Q q)
  have a8 : AllOk P w K mg base 16 [(("_law_mixed", none), spMixed), (("_law_kinds", none), (spKinds x_all)), (("Reader", some "need"), spRneed), (("Reader", some "ahead"), spAhead), (("Reader", some "begin"), spBegin), (("Reader", some "shut"), spShut), (("Reader", some "go_on"), spGoon), (("Reader", some "whole"), spRwhole)] := (a7.up (Nat.le_add_right _ _)).snoc o7.2
  have o8 := okd_of (P := P) (w := w) (base := base) (N := n_is_name) (ps := ["thing"]) (fns := [(("_law_mixed", none), spMixed), (("_law_kinds", none), (spKinds x_all)), (("Reader", some "need"), spRneed), (("Reader", some "ahead"), spAhead), (("Reader", some "begin"), spBegin), (("Reader", some "shut"), spShut), (("Reader", some "go_on"), spGoon), (("Reader", some "whole"), spRwhole)]) (gi := i_is_name) (gs := s_is_name) (bl := b_is_name) (e := e_is_name) (sp := spName) F8 (He.glo_ok XB GB (c.fact 2 (f := .glo "is_name") rfl)) sc_is_name a8
    (blt_of XB GB c (by decide +kernel)) (gis_of XB GB c (by decide +kernel)) (gss_of XB GB c (by decide +kernel)) (ex := x_is_name) ek0 ep0 (cl := cl_is_name) (fl := fl_is_name) ck0 ew0 (gt := gt_is_name) (gts_of XB GB c0 (by decide +kernel)) (gd := gd_is_name) (gds_of XB GB c0 (by decide +kernel)) c_is_name (F8.bindsN fun _ _ _ _ _ _ us hl => match us, hl with | [_], _ => rfl)
    (fun ds h xq Q q => by simp only [spName] at q; first | (obtain ⟨_, rfl, _⟩ := q; rfl) | (obtain ⟨_, _, rfl, _⟩ := q; rfl) | (obtain ⟨_, _, _, rfl, _⟩ := q; rfl) | (obtain ⟨_, _, _, _, rfl, _⟩ := q; rfl) | (obtain ⟨_, _, _, _, _, rfl, _⟩ := q; rfl) | (obtain ⟨_, _, _, _, _, _, rfl, _⟩ := q; rfl) | (obtain ⟨_, _, _, _, _, _, _, rfl, _⟩ := q; rfl) | (obtain ⟨_, _, _, _, _, _, _, _, rfl, _⟩ := q; rfl)) (fun ds h xq Q q => b_name _ ds h xq Q q)
  have a9 : AllOk P w K mg base 17 [(("_law_mixed", none), spMixed), (("_law_kinds", none), (spKinds x_all)), (("Reader", some "need"), spRneed), (("Reader", some "ahead"), spAhead), (("Reader", some "begin"), spBegin), (("Reader", some "shut"), spShut), (("Reader", some "go_on"), spGoon), (("Reader", some "whole"), spRwhole), (("is_name", none), spName)] := (a8.up (Nat.le_add_right _ _)).snoc o8.2
  have o9 := okd_rec (P := P) (w := w) (base := base) (N := n_parts_looked) (ps := ["thing", "deep"]) (fns := [(("_law_mixed", none), spMixed), (("_law_kinds", none), (spKinds x_all)), (("Reader", some "need"), spRneed), (("Reader", some "ahead"), spAhead), (("Reader", some "begin"), spBegin), (("Reader", some "shut"), spShut), (("Reader", some "go_on"), spGoon), (("Reader", some "whole"), spRwhole), (("is_name", none), spName)]) (gi := i_parts_looked) (gs := s_parts_looked) (bl := b_parts_looked) (e := e_parts_looked) (sp := spLook) F9 (He.glo_ok XB GB (c.fact 3 (f := .glo "parts_looked") rfl)) sc_parts_looked a9
    (blt_of XB GB c (by decide +kernel)) (gis_of XB GB c (by decide +kernel)) (gss_of XB GB c (by decide +kernel)) (ex := x_parts_looked) ek0 ep0 (cl := cl_parts_looked) (fl := fl_parts_looked) ck0 ew0 (gt := gt_parts_looked) (gts_of XB GB c0 (by decide +kernel)) (gd := gd_parts_looked) (gds_of XB GB c0 (by decide +kernel)) c_parts_looked (F9.bindsN fun _ _ _ _ _ _ us hl => match us, hl with | [_, _], _ => rfl)
    (fun d ds h xq Q q => by simp only [spLook] at q; first | (obtain ⟨_, rfl, _⟩ := q; rfl) | (obtain ⟨_, _, rfl, _⟩ := q; rfl) | (obtain ⟨_, _, _, rfl, _⟩ := q; rfl) | (obtain ⟨_, _, _, _, rfl, _⟩ := q; rfl) | (obtain ⟨_, _, _, _, _, rfl, _⟩ := q; rfl) | (obtain ⟨_, _, _, _, _, _, rfl, _⟩ := q; rfl) | (obtain ⟨_, _, _, _, _, _, _, rfl, _⟩ := q; rfl) | (obtain ⟨_, _, _, _, _, _, _, _, rfl, _⟩ := q; rfl)) (fun ds h xq Q q => look0 q) (fun d ds h xq Q q => b_look _ 8 9 d rfl rfl ds h xq Q q) 9
  have a10 : AllOk P w K mg base 26 [(("_law_mixed", none), spMixed), (("_law_kinds", none), (spKinds x_all)), (("Reader", some "need"), spRneed), (("Reader", some "ahead"), spAhead), (("Reader", some "begin"), spBegin), (("Reader", some "shut"), spShut), (("Reader", some "go_on"), spGoon), (("Reader", some "whole"), spRwhole), (("is_name", none), spName), (("parts_looked", none), (spLook 9))] := (a9.up (Nat.le_add_right _ _)).snoc o9.2
  have o10 := okd_of (P := P) (w := w) (base := base) (N := n_is_tree) (ps := ["thing"]) (fns := [(("_law_mixed", none), spMixed), (("_law_kinds", none), (spKinds x_all)), (("Reader", some "need"), spRneed), (("Reader", some "ahead"), spAhead), (("Reader", some "begin"), spBegin), (("Reader", some "shut"), spShut), (("Reader", some "go_on"), spGoon), (("Reader", some "whole"), spRwhole), (("is_name", none), spName), (("parts_looked", none), (spLook 9))]) (gi := i_is_tree) (gs := s_is_tree) (bl := b_is_tree) (e := e_is_tree) (sp := spTree) F10 (He.glo_ok XB GB (c.fact 4 (f := .glo "is_tree") rfl)) sc_is_tree a10
    (blt_of XB GB c (by decide +kernel)) (gis_of XB GB c (by decide +kernel)) (gss_of XB GB c (by decide +kernel)) (ex := x_is_tree) ek0 ep0 (cl := cl_is_tree) (fl := fl_is_tree) ck0 ew0 (gt := gt_is_tree) (gts_of XB GB c0 (by decide +kernel)) (gd := gd_is_tree) (gds_of XB GB c0 (by decide +kernel)) c_is_tree (F10.bindsN fun _ _ _ _ _ _ us hl => match us, hl with | [_], _ => rfl)
    (fun ds h xq Q q => by simp only [spTree] at q; first | (obtain ⟨_, rfl, _⟩ := q; rfl) | (obtain ⟨_, _, rfl, _⟩ := q; rfl) | (obtain ⟨_, _, _, rfl, _⟩ := q; rfl) | (obtain ⟨_, _, _, _, rfl, _⟩ := q; rfl) | (obtain ⟨_, _, _, _, _, rfl, _⟩ := q; rfl) | (obtain ⟨_, _, _, _, _, _, rfl, _⟩ := q; rfl) | (obtain ⟨_, _, _, _, _, _, _, rfl, _⟩ := q; rfl) | (obtain ⟨_, _, _, _, _, _, _, _, rfl, _⟩ := q; rfl)) (fun ds h xq Q q => b_tree _ 9 9 (by decide) rfl ds h xq Q q)
  have a11 : AllOk P w K mg base 27 [(("_law_mixed", none), spMixed), (("_law_kinds", none), (spKinds x_all)), (("Reader", some "need"), spRneed), (("Reader", some "ahead"), spAhead), (("Reader", some "begin"), spBegin), (("Reader", some "shut"), spShut), (("Reader", some "go_on"), spGoon), (("Reader", some "whole"), spRwhole), (("is_name", none), spName), (("parts_looked", none), (spLook 9)), (("is_tree", none), spTree)] := (a10.up (Nat.le_add_right _ _)).snoc o10.2
  have o11 := okd_of (P := P) (w := w) (base := base) (N := n_need_tree) (ps := ["tree"]) (fns := [(("_law_mixed", none), spMixed), (("_law_kinds", none), (spKinds x_all)), (("Reader", some "need"), spRneed), (("Reader", some "ahead"), spAhead), (("Reader", some "begin"), spBegin), (("Reader", some "shut"), spShut), (("Reader", some "go_on"), spGoon), (("Reader", some "whole"), spRwhole), (("is_name", none), spName), (("parts_looked", none), (spLook 9)), (("is_tree", none), spTree)]) (gi := i_need_tree) (gs := s_need_tree) (bl := b_need_tree) (e := e_need_tree) (sp := spNeed) F11 (He.glo_ok XB GB (c.fact 5 (f := .glo "need_tree") rfl)) sc_need_tree a11
    (blt_of XB GB c (by decide +kernel)) (gis_of XB GB c (by decide +kernel)) (gss_of XB GB c (by decide +kernel)) (ex := x_need_tree) ek ep (cl := cl_need_tree) (fl := fl_need_tree) ck0 (ow.up (by decide : 2 ≤ 27)) (gt := gt_need_tree) (gts_of XB GB c0 (by decide +kernel)) (gd := gd_need_tree) (gds_of XB GB c0 (by decide +kernel)) c_need_tree (F11.bindsN fun _ _ _ _ _ _ us hl => match us, hl with | [_], _ => rfl)
    (fun ds h xq Q q => by simp only [spNeed] at q; first | (obtain ⟨_, rfl, _⟩ := q; rfl) | (obtain ⟨_, _, rfl, _⟩ := q; rfl) | (obtain ⟨_, _, _, rfl, _⟩ := q; rfl) | (obtain ⟨_, _, _, _, rfl, _⟩ := q; rfl) | (obtain ⟨_, _, _, _, _, rfl, _⟩ := q; rfl) | (obtain ⟨_, _, _, _, _, _, rfl, _⟩ := q; rfl) | (obtain ⟨_, _, _, _, _, _, _, rfl, _⟩ := q; rfl) | (obtain ⟨_, _, _, _, _, _, _, _, rfl, _⟩ := q; rfl)) (fun ds h xq Q q => b_need _ 10 rfl ds h xq Q q)
  have a12 : AllOk P w K mg base 28 [(("_law_mixed", none), spMixed), (("_law_kinds", none), (spKinds x_all)), (("Reader", some "need"), spRneed), (("Reader", some "ahead"), spAhead), (("Reader", some "begin"), spBegin), (("Reader", some "shut"), spShut), (("Reader", some "go_on"), spGoon), (("Reader", some "whole"), spRwhole), (("is_name", none), spName), (("parts_looked", none), (spLook 9)), (("is_tree", none), spTree), (("need_tree", none), spNeed)] := (a11.up (Nat.le_add_right _ _)).snoc o11.2
  have o12 := okd_m (cn := "Reader") (m := "__init__") (P := P) (w := w) (base := base) (N := n_Reader___init__) (ps := ["self", "text"]) (fns := [(("_law_mixed", none), spMixed), (("_law_kinds", none), (spKinds x_all)), (("Reader", some "need"), spRneed), (("Reader", some "ahead"), spAhead), (("Reader", some "begin"), spBegin), (("Reader", some "shut"), spShut), (("Reader", some "go_on"), spGoon), (("Reader", some "whole"), spRwhole), (("is_name", none), spName), (("parts_looked", none), (spLook 9)), (("is_tree", none), spTree), (("need_tree", none), spNeed)]) (gi := i_Reader___init__) (gs := s_Reader___init__) (bl := b_Reader___init__) (e := e_Reader___init__) (sp := spInit) F12 (fat_mk XB GB (c.fact 48 (f := .mkr "Reader") rfl) (c.fact 50 (f := .glo "Reader") rfl)) sc_Reader___init__ a12
    (blt_of XB GB c (by decide +kernel)) (gis_of XB GB c (by decide +kernel)) (gss_of XB GB c (by decide +kernel)) (ex := x_Reader___init__) ek0 ep0 (cl := cl_Reader___init__) (fl := fl_Reader___init__) ck ew0 (gt := gt_Reader___init__) (gts_of XB GB c0 (by decide +kernel)) (gd := gd_Reader___init__) (gds_of XB GB c0 (by decide +kernel)) c_Reader___init__ (F12.bindsN fun _ _ _ _ _ _ us hl => match us, hl with | [_, _], _ => rfl)
    (fun ds h xq Q q => by simp only [spInit] at q; first | (obtain ⟨_, rfl, _⟩ := q; rfl) | (obtain ⟨_, _, rfl, _⟩ := q; rfl) | (obtain ⟨_, _, _, rfl, _⟩ := q; rfl) | (obtain ⟨_, _, _, _, rfl, _⟩ := q; rfl) | (obtain ⟨_, _, _, _, _, rfl, _⟩ := q; rfl) | (obtain ⟨_, _, _, _, _, _, rfl, _⟩ := q; rfl) | (obtain ⟨_, _, _, _, _, _, _, rfl, _⟩ := q; rfl) | (obtain ⟨_, _, _, _, _, _, _, _, rfl, _⟩ := q; rfl)) (fun ds h xq Q q => b_init cs_in ds h xq Q q)
  have a13 : AllOk P w K mg base 30 [(("_law_mixed", none), spMixed), (("_law_kinds", none), (spKinds x_all)), (("Reader", some "need"), spRneed), (("Reader", some "ahead"), spAhead), (("Reader", some "begin"), spBegin), (("Reader", some "shut"), spShut), (("Reader", some "go_on"), spGoon), (("Reader", some "whole"), spRwhole), (("is_name", none), spName), (("parts_looked", none), (spLook 9)), (("is_tree", none), spTree), (("need_tree", none), spNeed), (("Reader", some "__init__"), spInit)] := (a12.up (Nat.le_add_right _ _)).snoc o12.2
  have o13 := okd_of (P := P) (w := w) (base := base) (N := n_read_tree) (ps := ["text"]) (fns := [(("_law_mixed", none), spMixed), (("_law_kinds", none), (spKinds x_all)), (("Reader", some "need"), spRneed), (("Reader", some "ahead"), spAhead), (("Reader", some "begin"), spBegin), (("Reader", some "shut"), spShut), (("Reader", some "go_on"), spGoon), (("Reader", some "whole"), spRwhole), (("is_name", none), spName), (("parts_looked", none), (spLook 9)), (("is_tree", none), spTree), (("need_tree", none), spNeed), (("Reader", some "__init__"), spInit)]) (gi := i_read_tree) (gs := s_read_tree) (bl := b_read_tree) (e := e_read_tree) (sp := spReadT) F13 (He.glo_ok XB GB (c.fact 6 (f := .glo "read_tree") rfl)) sc_read_tree a13
    (blt_of XB GB c (by decide +kernel)) (gis_of XB GB c (by decide +kernel)) (gss_of XB GB c (by decide +kernel)) (ex := x_read_tree) ek ep (cl := cl_read_tree) (fl := fl_read_tree) ck (ow.up (by decide : 2 ≤ 30)) (gt := gt_read_tree) (gts_of XB GB c0 (by decide +kernel)) (gd := gd_read_tree) (gds_of XB GB c0 (by decide +kernel)) c_read_tree (F13.bindsN fun _ _ _ _ _ _ us hl => match us, hl with | [_], _ => rfl)
    (fun ds h xq Q q => by simp only [spReadT] at q; first | (obtain ⟨_, rfl, _⟩ := q; rfl) | (obtain ⟨_, _, rfl, _⟩ := q; rfl) | (obtain ⟨_, _, _, rfl, _⟩ := q; rfl) | (obtain ⟨_, _, _, _, rfl, _⟩ := q; rfl) | (obtain ⟨_, _, _, _, _, rfl, _⟩ := q; rfl) | (obtain ⟨_, _, _, _, _, _, rfl, _⟩ := q; rfl) | (obtain ⟨_, _, _, _, _, _, _, rfl, _⟩ := q; rfl) | (obtain ⟨_, _, _, _, _, _, _, _, rfl, _⟩ := q; rfl)) (fun ds h xq Q q => b_readT cs_in 7 12 11 rfl rfl rfl ds h xq Q q)
  have a14 : AllOk P w K mg base 31 [(("_law_mixed", none), spMixed), (("_law_kinds", none), (spKinds x_all)), (("Reader", some "need"), spRneed), (("Reader", some "ahead"), spAhead), (("Reader", some "begin"), spBegin), (("Reader", some "shut"), spShut), (("Reader", some "go_on"), spGoon), (("Reader", some "whole"), spRwhole), (("is_name", none), spName), (("parts_looked", none), (spLook 9)), (("is_tree", none), spTree), (("need_tree", none), spNeed), (("Reader", some "__init__"), spInit), (("read_tree", none), spReadT)] := (a13.up (Nat.le_add_right _ _)).snoc o13.2
  have o14 := okd_of (P := P) (w := w) (base := base) (N := n_is_whole) (ps := ["thing"]) (fns := [(("_law_mixed", none), spMixed), (("_law_kinds", none), (spKinds x_all)), (("Reader", some "need"), spRneed), (("Reader", some "ahead"), spAhead), (("Reader", some "begin"), spBegin), (("Reader", some "shut"), spShut), (("Reader", some "go_on"), spGoon), (("Reader", some "whole"), spRwhole), (("is_name", none), spName), (("parts_looked", none), (spLook 9)), (("is_tree", none), spTree), (("need_tree", none), spNeed), (("Reader", some "__init__"), spInit), (("read_tree", none), spReadT)]) (gi := i_is_whole) (gs := s_is_whole) (bl := b_is_whole) (e := e_is_whole) (sp := spWhole) F14 (He.glo_ok XB GB (c.fact 7 (f := .glo "is_whole") rfl)) sc_is_whole a14
    (blt_of XB GB c (by decide +kernel)) (gis_of XB GB c (by decide +kernel)) (gss_of XB GB c (by decide +kernel)) (ex := x_is_whole) ek0 ep0 (cl := cl_is_whole) (fl := fl_is_whole) ck0 ew0 (gt := gt_is_whole) (gts_of XB GB c0 (by decide +kernel)) (gd := gd_is_whole) (gds_of XB GB c0 (by decide +kernel)) c_is_whole (F14.bindsN fun _ _ _ _ _ _ us hl => match us, hl with | [_], _ => rfl)
    (fun ds h xq Q q => by simp only [spWhole] at q; first | (obtain ⟨_, rfl, _⟩ := q; rfl) | (obtain ⟨_, _, rfl, _⟩ := q; rfl) | (obtain ⟨_, _, _, rfl, _⟩ := q; rfl) | (obtain ⟨_, _, _, _, rfl, _⟩ := q; rfl) | (obtain ⟨_, _, _, _, _, rfl, _⟩ := q; rfl) | (obtain ⟨_, _, _, _, _, _, rfl, _⟩ := q; rfl) | (obtain ⟨_, _, _, _, _, _, _, rfl, _⟩ := q; rfl) | (obtain ⟨_, _, _, _, _, _, _, _, rfl, _⟩ := q; rfl)) (fun ds h xq Q q => b_whole _ ds h xq Q q)
  have a15 : AllOk P w K mg base 32 [(("_law_mixed", none), spMixed), (("_law_kinds", none), (spKinds x_all)), (("Reader", some "need"), spRneed), (("Reader", some "ahead"), spAhead), (("Reader", some "begin"), spBegin), (("Reader", some "shut"), spShut), (("Reader", some "go_on"), spGoon), (("Reader", some "whole"), spRwhole), (("is_name", none), spName), (("parts_looked", none), (spLook 9)), (("is_tree", none), spTree), (("need_tree", none), spNeed), (("Reader", some "__init__"), spInit), (("read_tree", none), spReadT), (("is_whole", none), spWhole)] := (a14.up (Nat.le_add_right _ _)).snoc o14.2
  have o15 := okd_of (P := P) (w := w) (base := base) (N := n_is_among) (ps := ["thing", "least", "most"]) (fns := [(("_law_mixed", none), spMixed), (("_law_kinds", none), (spKinds x_all)), (("Reader", some "need"), spRneed), (("Reader", some "ahead"), spAhead), (("Reader", some "begin"), spBegin), (("Reader", some "shut"), spShut), (("Reader", some "go_on"), spGoon), (("Reader", some "whole"), spRwhole), (("is_name", none), spName), (("parts_looked", none), (spLook 9)), (("is_tree", none), spTree), (("need_tree", none), spNeed), (("Reader", some "__init__"), spInit), (("read_tree", none), spReadT), (("is_whole", none), spWhole)]) (gi := i_is_among) (gs := s_is_among) (bl := b_is_among) (e := e_is_among) (sp := spAmong) F15 (He.glo_ok XB GB (c.fact 8 (f := .glo "is_among") rfl)) sc_is_among a15
    (blt_of XB GB c (by decide +kernel)) (gis_of XB GB c (by decide +kernel)) (gss_of XB GB c (by decide +kernel)) (ex := x_is_among) ek0 ep0 (cl := cl_is_among) (fl := fl_is_among) ck0 ew0 (gt := gt_is_among) (gts_of XB GB c0 (by decide +kernel)) (gd := gd_is_among) (gds_of XB GB c0 (by decide +kernel)) c_is_among (F15.bindsN fun _ _ _ _ _ _ us hl => match us, hl with | [_, _, _], _ => rfl)
    (fun ds h xq Q q => by simp only [spAmong] at q; first | (obtain ⟨_, rfl, _⟩ := q; rfl) | (obtain ⟨_, _, rfl, _⟩ := q; rfl) | (obtain ⟨_, _, _, rfl, _⟩ := q; rfl) | (obtain ⟨_, _, _, _, rfl, _⟩ := q; rfl) | (obtain ⟨_, _, _, _, _, rfl, _⟩ := q; rfl) | (obtain ⟨_, _, _, _, _, _, rfl, _⟩ := q; rfl) | (obtain ⟨_, _, _, _, _, _, _, rfl, _⟩ := q; rfl) | (obtain ⟨_, _, _, _, _, _, _, _, rfl, _⟩ := q; rfl)) (fun ds h xq Q q => b_among _ 14 rfl ds h xq Q q)
  have a16 : AllOk P w K mg base 33 [(("_law_mixed", none), spMixed), (("_law_kinds", none), (spKinds x_all)), (("Reader", some "need"), spRneed), (("Reader", some "ahead"), spAhead), (("Reader", some "begin"), spBegin), (("Reader", some "shut"), spShut), (("Reader", some "go_on"), spGoon), (("Reader", some "whole"), spRwhole), (("is_name", none), spName), (("parts_looked", none), (spLook 9)), (("is_tree", none), spTree), (("need_tree", none), spNeed), (("Reader", some "__init__"), spInit), (("read_tree", none), spReadT), (("is_whole", none), spWhole), (("is_among", none), spAmong)] := (a15.up (Nat.le_add_right _ _)).snoc o15.2
  have o16 := okd_of (P := P) (w := w) (base := base) (N := n_found_at) (ps := ["tree", "place"]) (fns := [(("_law_mixed", none), spMixed), (("_law_kinds", none), (spKinds x_all)), (("Reader", some "need"), spRneed), (("Reader", some "ahead"), spAhead), (("Reader", some "begin"), spBegin), (("Reader", some "shut"), spShut), (("Reader", some "go_on"), spGoon), (("Reader", some "whole"), spRwhole), (("is_name", none), spName), (("parts_looked", none), (spLook 9)), (("is_tree", none), spTree), (("need_tree", none), spNeed), (("Reader", some "__init__"), spInit), (("read_tree", none), spReadT), (("is_whole", none), spWhole), (("is_among", none), spAmong)]) (gi := i_found_at) (gs := s_found_at) (bl := b_found_at) (e := e_found_at) (sp := spFound) F16 (He.glo_ok XB GB (c.fact 9 (f := .glo "found_at") rfl)) sc_found_at a16
    (blt_of XB GB c (by decide +kernel)) (gis_of XB GB c (by decide +kernel)) (gss_of XB GB c (by decide +kernel)) (ex := x_found_at) ek0 ep0 (cl := cl_found_at) (fl := fl_found_at) ck0 ew0 (gt := gt_found_at) (gts_of XB GB c0 (by decide +kernel)) (gd := gd_found_at) (gds_of XB GB c0 (by decide +kernel)) c_found_at (F16.bindsN fun _ _ _ _ _ _ us hl => match us, hl with | [_, _], _ => rfl)
    (fun ds h xq Q q => by simp only [spFound] at q; first | (obtain ⟨_, rfl, _⟩ := q; rfl) | (obtain ⟨_, _, rfl, _⟩ := q; rfl) | (obtain ⟨_, _, _, rfl, _⟩ := q; rfl) | (obtain ⟨_, _, _, _, rfl, _⟩ := q; rfl) | (obtain ⟨_, _, _, _, _, rfl, _⟩ := q; rfl) | (obtain ⟨_, _, _, _, _, _, rfl, _⟩ := q; rfl) | (obtain ⟨_, _, _, _, _, _, _, rfl, _⟩ := q; rfl) | (obtain ⟨_, _, _, _, _, _, _, _, rfl, _⟩ := q; rfl)) (fun ds h xq Q q => b_found _ 15 rfl ds h xq Q q)
  have a17 : AllOk P w K mg base 34 [(("_law_mixed", none), spMixed), (("_law_kinds", none), (spKinds x_all)), (("Reader", some "need"), spRneed), (("Reader", some "ahead"), spAhead), (("Reader", some "begin"), spBegin), (("Reader", some "shut"), spShut), (("Reader", some "go_on"), spGoon), (("Reader", some "whole"), spRwhole), (("is_name", none), spName), (("parts_looked", none), (spLook 9)), (("is_tree", none), spTree), (("need_tree", none), spNeed), (("Reader", some "__init__"), spInit), (("read_tree", none), spReadT), (("is_whole", none), spWhole), (("is_among", none), spAmong), (("found_at", none), spFound)] := (a16.up (Nat.le_add_right _ _)).snoc o16.2
  have o17 := okd_of (P := P) (w := w) (base := base) (N := n_part_at) (ps := ["tree", "place"]) (fns := [(("_law_mixed", none), spMixed), (("_law_kinds", none), (spKinds x_all)), (("Reader", some "need"), spRneed), (("Reader", some "ahead"), spAhead), (("Reader", some "begin"), spBegin), (("Reader", some "shut"), spShut), (("Reader", some "go_on"), spGoon), (("Reader", some "whole"), spRwhole), (("is_name", none), spName), (("parts_looked", none), (spLook 9)), (("is_tree", none), spTree), (("need_tree", none), spNeed), (("Reader", some "__init__"), spInit), (("read_tree", none), spReadT), (("is_whole", none), spWhole), (("is_among", none), spAmong), (("found_at", none), spFound)]) (gi := i_part_at) (gs := s_part_at) (bl := b_part_at) (e := e_part_at) (sp := spPartA) F17 (He.glo_ok XB GB (c.fact 10 (f := .glo "part_at") rfl)) sc_part_at a17
    (blt_of XB GB c (by decide +kernel)) (gis_of XB GB c (by decide +kernel)) (gss_of XB GB c (by decide +kernel)) (ex := x_part_at) ek ep (cl := cl_part_at) (fl := fl_part_at) ck0 (ow.up (by decide : 2 ≤ 34)) (gt := gt_part_at) (gts_of XB GB c0 (by decide +kernel)) (gd := gd_part_at) (gds_of XB GB c0 (by decide +kernel)) c_part_at (F17.bindsN fun _ _ _ _ _ _ us hl => match us, hl with | [_, _], _ => rfl)
    (fun ds h xq Q q => by simp only [spPartA] at q; first | (obtain ⟨_, rfl, _⟩ := q; rfl) | (obtain ⟨_, _, rfl, _⟩ := q; rfl) | (obtain ⟨_, _, _, rfl, _⟩ := q; rfl) | (obtain ⟨_, _, _, _, rfl, _⟩ := q; rfl) | (obtain ⟨_, _, _, _, _, rfl, _⟩ := q; rfl) | (obtain ⟨_, _, _, _, _, _, rfl, _⟩ := q; rfl) | (obtain ⟨_, _, _, _, _, _, _, rfl, _⟩ := q; rfl) | (obtain ⟨_, _, _, _, _, _, _, _, rfl, _⟩ := q; rfl)) (fun ds h xq Q q => b_partA _ 11 16 rfl rfl ds h xq Q q)
  have a18 : AllOk P w K mg base 35 [(("_law_mixed", none), spMixed), (("_law_kinds", none), (spKinds x_all)), (("Reader", some "need"), spRneed), (("Reader", some "ahead"), spAhead), (("Reader", some "begin"), spBegin), (("Reader", some "shut"), spShut), (("Reader", some "go_on"), spGoon), (("Reader", some "whole"), spRwhole), (("is_name", none), spName), (("parts_looked", none), (spLook 9)), (("is_tree", none), spTree), (("need_tree", none), spNeed), (("Reader", some "__init__"), spInit), (("read_tree", none), spReadT), (("is_whole", none), spWhole), (("is_among", none), spAmong), (("found_at", none), spFound), (("part_at", none), spPartA)] := (a17.up (Nat.le_add_right _ _)).snoc o17.2
  have o18 := okd_of (P := P) (w := w) (base := base) (N := n_many_at) (ps := ["tree", "place"]) (fns := [(("_law_mixed", none), spMixed), (("_law_kinds", none), (spKinds x_all)), (("Reader", some "need"), spRneed), (("Reader", some "ahead"), spAhead), (("Reader", some "begin"), spBegin), (("Reader", some "shut"), spShut), (("Reader", some "go_on"), spGoon), (("Reader", some "whole"), spRwhole), (("is_name", none), spName), (("parts_looked", none), (spLook 9)), (("is_tree", none), spTree), (("need_tree", none), spNeed), (("Reader", some "__init__"), spInit), (("read_tree", none), spReadT), (("is_whole", none), spWhole), (("is_among", none), spAmong), (("found_at", none), spFound), (("part_at", none), spPartA)]) (gi := i_many_at) (gs := s_many_at) (bl := b_many_at) (e := e_many_at) (sp := spManyA) F18 (He.glo_ok XB GB (c.fact 11 (f := .glo "many_at") rfl)) sc_many_at a18
    (blt_of XB GB c (by decide +kernel)) (gis_of XB GB c (by decide +kernel)) (gss_of XB GB c (by decide +kernel)) (ex := x_many_at) ek0 ep0 (cl := cl_many_at) (fl := fl_many_at) ck0 ew0 (gt := gt_many_at) (gts_of XB GB c0 (by decide +kernel)) (gd := gd_many_at) (gds_of XB GB c0 (by decide +kernel)) c_many_at (F18.bindsN fun _ _ _ _ _ _ us hl => match us, hl with | [_, _], _ => rfl)
    (fun ds h xq Q q => by simp only [spManyA] at q; first | (obtain ⟨_, rfl, _⟩ := q; rfl) | (obtain ⟨_, _, rfl, _⟩ := q; rfl) | (obtain ⟨_, _, _, rfl, _⟩ := q; rfl) | (obtain ⟨_, _, _, _, rfl, _⟩ := q; rfl) | (obtain ⟨_, _, _, _, _, rfl, _⟩ := q; rfl) | (obtain ⟨_, _, _, _, _, _, rfl, _⟩ := q; rfl) | (obtain ⟨_, _, _, _, _, _, _, rfl, _⟩ := q; rfl) | (obtain ⟨_, _, _, _, _, _, _, _, rfl, _⟩ := q; rfl)) (fun ds h xq Q q => b_manyA _ 17 rfl ds h xq Q q)
  have a19 : AllOk P w K mg base 36 [(("_law_mixed", none), spMixed), (("_law_kinds", none), (spKinds x_all)), (("Reader", some "need"), spRneed), (("Reader", some "ahead"), spAhead), (("Reader", some "begin"), spBegin), (("Reader", some "shut"), spShut), (("Reader", some "go_on"), spGoon), (("Reader", some "whole"), spRwhole), (("is_name", none), spName), (("parts_looked", none), (spLook 9)), (("is_tree", none), spTree), (("need_tree", none), spNeed), (("Reader", some "__init__"), spInit), (("read_tree", none), spReadT), (("is_whole", none), spWhole), (("is_among", none), spAmong), (("found_at", none), spFound), (("part_at", none), spPartA), (("many_at", none), spManyA)] := (a18.up (Nat.le_add_right _ _)).snoc o18.2
  have o19 := okd_rec (P := P) (w := w) (base := base) (N := n_part_text) (ps := ["part"]) (fns := [(("_law_mixed", none), spMixed), (("_law_kinds", none), (spKinds x_all)), (("Reader", some "need"), spRneed), (("Reader", some "ahead"), spAhead), (("Reader", some "begin"), spBegin), (("Reader", some "shut"), spShut), (("Reader", some "go_on"), spGoon), (("Reader", some "whole"), spRwhole), (("is_name", none), spName), (("parts_looked", none), (spLook 9)), (("is_tree", none), spTree), (("need_tree", none), spNeed), (("Reader", some "__init__"), spInit), (("read_tree", none), spReadT), (("is_whole", none), spWhole), (("is_among", none), spAmong), (("found_at", none), spFound), (("part_at", none), spPartA), (("many_at", none), spManyA)]) (gi := i_part_text) (gs := s_part_text) (bl := b_part_text) (e := e_part_text) (sp := spPartx) F19 (He.glo_ok XB GB (c.fact 12 (f := .glo "part_text") rfl)) sc_part_text a19
    (blt_of XB GB c (by decide +kernel)) (gis_of XB GB c (by decide +kernel)) (gss_of XB GB c (by decide +kernel)) (ex := x_part_text) ek0 ep0 (cl := cl_part_text) (fl := fl_part_text) ck0 ew0 (gt := gt_part_text) (gts_of XB GB c0 (by decide +kernel)) (gd := gd_part_text) (gds_of XB GB c0 (by decide +kernel)) c_part_text (F19.bindsN fun _ _ _ _ _ _ us hl => match us, hl with | [_], _ => rfl)
    (fun d ds h xq Q q => by simp only [spPartx] at q; first | (obtain ⟨_, rfl, _⟩ := q; rfl) | (obtain ⟨_, _, rfl, _⟩ := q; rfl) | (obtain ⟨_, _, _, rfl, _⟩ := q; rfl) | (obtain ⟨_, _, _, _, rfl, _⟩ := q; rfl) | (obtain ⟨_, _, _, _, _, rfl, _⟩ := q; rfl) | (obtain ⟨_, _, _, _, _, _, rfl, _⟩ := q; rfl) | (obtain ⟨_, _, _, _, _, _, _, rfl, _⟩ := q; rfl) | (obtain ⟨_, _, _, _, _, _, _, _, rfl, _⟩ := q; rfl)) (fun ds h xq Q q => partx0 q) (fun d ds h xq Q q => b_partx _ 19 d rfl ds h xq Q q) 8
  have a20 : AllOk P w K mg base 44 [(("_law_mixed", none), spMixed), (("_law_kinds", none), (spKinds x_all)), (("Reader", some "need"), spRneed), (("Reader", some "ahead"), spAhead), (("Reader", some "begin"), spBegin), (("Reader", some "shut"), spShut), (("Reader", some "go_on"), spGoon), (("Reader", some "whole"), spRwhole), (("is_name", none), spName), (("parts_looked", none), (spLook 9)), (("is_tree", none), spTree), (("need_tree", none), spNeed), (("Reader", some "__init__"), spInit), (("read_tree", none), spReadT), (("is_whole", none), spWhole), (("is_among", none), spAmong), (("found_at", none), spFound), (("part_at", none), spPartA), (("many_at", none), spManyA), (("part_text", none), (spPartx 8))] := (a19.up (Nat.le_add_right _ _)).snoc o19.2
  have o20 := okd_of (P := P) (w := w) (base := base) (N := n_tree_text) (ps := ["tree"]) (fns := [(("_law_mixed", none), spMixed), (("_law_kinds", none), (spKinds x_all)), (("Reader", some "need"), spRneed), (("Reader", some "ahead"), spAhead), (("Reader", some "begin"), spBegin), (("Reader", some "shut"), spShut), (("Reader", some "go_on"), spGoon), (("Reader", some "whole"), spRwhole), (("is_name", none), spName), (("parts_looked", none), (spLook 9)), (("is_tree", none), spTree), (("need_tree", none), spNeed), (("Reader", some "__init__"), spInit), (("read_tree", none), spReadT), (("is_whole", none), spWhole), (("is_among", none), spAmong), (("found_at", none), spFound), (("part_at", none), spPartA), (("many_at", none), spManyA), (("part_text", none), (spPartx 8))]) (gi := i_tree_text) (gs := s_tree_text) (bl := b_tree_text) (e := e_tree_text) (sp := spTtext) F20 (He.glo_ok XB GB (c.fact 13 (f := .glo "tree_text") rfl)) sc_tree_text a20
    (blt_of XB GB c (by decide +kernel)) (gis_of XB GB c (by decide +kernel)) (gss_of XB GB c (by decide +kernel)) (ex := x_tree_text) ek0 ep0 (cl := cl_tree_text) (fl := fl_tree_text) ck0 ew0 (gt := gt_tree_text) (gts_of XB GB c0 (by decide +kernel)) (gd := gd_tree_text) (gds_of XB GB c0 (by decide +kernel)) c_tree_text (F20.bindsN fun _ _ _ _ _ _ us hl => match us, hl with | [_], _ => rfl)
    (fun ds h xq Q q => by simp only [spTtext] at q; first | (obtain ⟨_, rfl, _⟩ := q; rfl) | (obtain ⟨_, _, rfl, _⟩ := q; rfl) | (obtain ⟨_, _, _, rfl, _⟩ := q; rfl) | (obtain ⟨_, _, _, _, rfl, _⟩ := q; rfl) | (obtain ⟨_, _, _, _, _, rfl, _⟩ := q; rfl) | (obtain ⟨_, _, _, _, _, _, rfl, _⟩ := q; rfl) | (obtain ⟨_, _, _, _, _, _, _, rfl, _⟩ := q; rfl) | (obtain ⟨_, _, _, _, _, _, _, _, rfl, _⟩ := q; rfl)) (fun ds h xq Q q => b_ttext _ 11 19 8 (by decide) rfl rfl ds h xq Q q)
  have a21 : AllOk P w K mg base 45 [(("_law_mixed", none), spMixed), (("_law_kinds", none), (spKinds x_all)), (("Reader", some "need"), spRneed), (("Reader", some "ahead"), spAhead), (("Reader", some "begin"), spBegin), (("Reader", some "shut"), spShut), (("Reader", some "go_on"), spGoon), (("Reader", some "whole"), spRwhole), (("is_name", none), spName), (("parts_looked", none), (spLook 9)), (("is_tree", none), spTree), (("need_tree", none), spNeed), (("Reader", some "__init__"), spInit), (("read_tree", none), spReadT), (("is_whole", none), spWhole), (("is_among", none), spAmong), (("found_at", none), spFound), (("part_at", none), spPartA), (("many_at", none), spManyA), (("part_text", none), (spPartx 8)), (("tree_text", none), spTtext)] := (a20.up (Nat.le_add_right _ _)).snoc o20.2
  have o21 := okd_of (P := P) (w := w) (base := base) (N := n__law_told) (ps := ["way", "text", "place"]) (fns := [(("_law_mixed", none), spMixed), (("_law_kinds", none), (spKinds x_all)), (("Reader", some "need"), spRneed), (("Reader", some "ahead"), spAhead), (("Reader", some "begin"), spBegin), (("Reader", some "shut"), spShut), (("Reader", some "go_on"), spGoon), (("Reader", some "whole"), spRwhole), (("is_name", none), spName), (("parts_looked", none), (spLook 9)), (("is_tree", none), spTree), (("need_tree", none), spNeed), (("Reader", some "__init__"), spInit), (("read_tree", none), spReadT), (("is_whole", none), spWhole), (("is_among", none), spAmong), (("found_at", none), spFound), (("part_at", none), spPartA), (("many_at", none), spManyA), (("part_text", none), (spPartx 8)), (("tree_text", none), spTtext)]) (gi := i__law_told) (gs := s__law_told) (bl := b__law_told) (e := e__law_told) (sp := spTold) F21 (He.glo_ok XB GB (c.fact 14 (f := .glo "_law_told") rfl)) sc__law_told a21
    (blt_of XB GB c (by decide +kernel)) (gis_of XB GB c (by decide +kernel)) (gss_of XB GB c (by decide +kernel)) (ex := x__law_told) ek ep (cl := cl__law_told) (fl := fl__law_told) ck0 (ow.up (by decide : 2 ≤ 45)) (gt := gt__law_told) (gts_of XB GB c0 (by decide +kernel)) (gd := gd__law_told) (gds_of XB GB c0 (by decide +kernel)) c__law_told (F21.bindsN fun _ _ _ _ _ _ us hl => match us, hl with | [_, _, _], _ => rfl)
    (fun ds h xq Q q => by simp only [spTold] at q; first | (obtain ⟨_, rfl, _⟩ := q; rfl) | (obtain ⟨_, _, rfl, _⟩ := q; rfl) | (obtain ⟨_, _, _, rfl, _⟩ := q; rfl) | (obtain ⟨_, _, _, _, rfl, _⟩ := q; rfl) | (obtain ⟨_, _, _, _, _, rfl, _⟩ := q; rfl) | (obtain ⟨_, _, _, _, _, _, rfl, _⟩ := q; rfl) | (obtain ⟨_, _, _, _, _, _, _, rfl, _⟩ := q; rfl) | (obtain ⟨_, _, _, _, _, _, _, _, rfl, _⟩ := q; rfl)) (fun ds h xq Q q => b_told _ rfl rfl rfl rfl rfl ds h xq Q q)
  have a22 : AllOk P w K mg base 46 [(("_law_mixed", none), spMixed), (("_law_kinds", none), (spKinds x_all)), (("Reader", some "need"), spRneed), (("Reader", some "ahead"), spAhead), (("Reader", some "begin"), spBegin), (("Reader", some "shut"), spShut), (("Reader", some "go_on"), spGoon), (("Reader", some "whole"), spRwhole), (("is_name", none), spName), (("parts_looked", none), (spLook 9)), (("is_tree", none), spTree), (("need_tree", none), spNeed), (("Reader", some "__init__"), spInit), (("read_tree", none), spReadT), (("is_whole", none), spWhole), (("is_among", none), spAmong), (("found_at", none), spFound), (("part_at", none), spPartA), (("many_at", none), spManyA), (("part_text", none), (spPartx 8)), (("tree_text", none), spTtext), (("_law_told", none), spTold)] := (a21.up (Nat.le_add_right _ _)).snoc o21.2
  have o22 := okd_of (P := P) (w := w) (base := base) (N := n_law) (ps := ["script"]) (fns := [(("_law_mixed", none), spMixed), (("_law_kinds", none), (spKinds x_all)), (("Reader", some "need"), spRneed), (("Reader", some "ahead"), spAhead), (("Reader", some "begin"), spBegin), (("Reader", some "shut"), spShut), (("Reader", some "go_on"), spGoon), (("Reader", some "whole"), spRwhole), (("is_name", none), spName), (("parts_looked", none), (spLook 9)), (("is_tree", none), spTree), (("need_tree", none), spNeed), (("Reader", some "__init__"), spInit), (("read_tree", none), spReadT), (("is_whole", none), spWhole), (("is_among", none), spAmong), (("found_at", none), spFound), (("part_at", none), spPartA), (("many_at", none), spManyA), (("part_text", none), (spPartx 8)), (("tree_text", none), spTtext), (("_law_told", none), spTold)]) (gi := i_law) (gs := s_law) (bl := b_law) (e := e_law) (sp := spLaw) F22 (He.glo_ok XB GB (c.fact 15 (f := .glo "law") rfl)) sc_law a22
    (blt_of XB GB c (by decide +kernel)) (gis_of XB GB c (by decide +kernel)) (gss_of XB GB c (by decide +kernel)) (ex := x_law) ek ep (cl := cl_law) (fl := fl_law) ck0 (ow.up (by decide : 2 ≤ 46)) (gt := gt_law) (gts_of XB GB c0 (by decide +kernel)) (gd := gd_law) (gds_of XB GB c0 (by decide +kernel)) c_law (F22.bindsN fun _ _ _ _ _ _ us hl => match us, hl with | [_], _ => rfl)
    (fun ds h xq Q q => by simp only [spLaw] at q; first | (obtain ⟨_, rfl, _⟩ := q; rfl) | (obtain ⟨_, _, rfl, _⟩ := q; rfl) | (obtain ⟨_, _, _, rfl, _⟩ := q; rfl) | (obtain ⟨_, _, _, _, rfl, _⟩ := q; rfl) | (obtain ⟨_, _, _, _, _, rfl, _⟩ := q; rfl) | (obtain ⟨_, _, _, _, _, _, rfl, _⟩ := q; rfl) | (obtain ⟨_, _, _, _, _, _, _, rfl, _⟩ := q; rfl) | (obtain ⟨_, _, _, _, _, _, _, _, rfl, _⟩ := q; rfl)) (fun ds h xq Q q => body_law _ ⟨rfl, rfl, rfl⟩ ds h xq Q q)
  exact o22.1
end K07
open PySem PySem.W PySem.Calls PyProof.Rows
theorem PySem.Challenge.cw_marksthrough_k07_refusals_by_hand_holds : PySem.Challenge.rw_marksthrough_k07_refusals_by_hand.Holds := by
  w_on; o_law
  refine HandSHeadRun.head_any (r := OpenLaw.row PySem.Challenge.rw_marksthrough_k07_refusals_by_hand) (q := view (OpenLaw.row PySem.Challenge.rw_marksthrough_k07_refusals_by_hand).prog [38]) (H := K07.hk) (ob := K07.ob) (M := 30000) (loose := K07.loose) (d := HandSHeadRun.topDef (OpenLaw.row PySem.Challenge.rw_marksthrough_k07_refusals_by_hand).prog 38) (kwd := []) K07.ob_eq
    (by kernel_rfl) (fun s => by kernel_rfl) K07.run (by kernel_rfl) (by kernel_rfl) (by kernel_rfl) (by rfl) (by first | assumption | decide +kernel) (by decide +kernel) ⟨rfl, rfl, rfl, rfl, rfl, by decide +kernel⟩ ?hw ?hc
  case hw => w_witness2
  case hc =>
    refine Lit.law_ends (l := PySem.Challenge.rw_marksthrough_k07_refusals_by_hand) (n := 63) (k := 47) (x := "script") rfl (by decide) (by kernel_rfl) ⟨rfl, by decide, by decide⟩ ?F
    intro w mg fa h Y Gn hmg0
    obtain ⟨K, KX, c⟩ := Y
    have hmg : mg ("law" : PySem.Str) = some (.ref fa) := by
      have e : (HandSHeadRun.topDef (OpenLaw.row PySem.Challenge.rw_marksthrough_k07_refusals_by_hand).prog 38).name = ("law" : PySem.Str) := by kernel_rfl
      rw [← e]
      exact hmg0
    obtain ⟨fd, hb, hF⟩ := K07.facts (P := (PySem.Challenge.rw_marksthrough_k07_refusals_by_hand).prog) (w := w) KX Gn hmg c
    exact ⟨K, fd, K07.spLaw, KX, hb, fun ns hl => ⟨ns, rfl, hl, fun _ => rfl⟩, hF⟩
