import PyProof.Rows.All
import Wide.All
import OpenK.AllK
import Wide.FinOn
import HandS.ForMost
import HandS.Exc
import HandS.ExcOwn
import HandS.WordsExc
import HandS.TryOnly
import HandS.TryMany
import HandS.CallSlots
import HandS.IsInst
import HandS.Codes
import HandS.Replace
import HandS.Defaults
import HandS.HeadHook2
import HandS.Head0
import HandS.Head1
import HandS.Head2
import HandS.HeadEnd
import PySem.Challenge.RW_lettercell_k02_rows_of_keys
set_option Elab.async false
set_option linter.all false
set_option maxRecDepth 100000
set_option maxHeartbeats 4000000
/-! The data machine: values, mutable objects, outcomes; how they stand for the abstract heap. -/
namespace DM
open PySem PySem.Spec PyProof.Rows L2

/-- a datum: an unchanging value, or the label of an object that may change -/
inductive DV where
  | non | bl (b : Bool) | int (i : Int) | str (l : List Nat) | ty (n : String)
  | lst (ds : List DV) | tup (ds : List DV) | obj (k : Nat)
  deriving Inhabited
/-- an object that may change -/
inductive MO where
  | lst (ds : List DV) | dic (kvs : List (Key × DV)) | ins (c : String) (fs : List (Str × DV))
  deriving Inhabited
abbrev Mu := List MO
abbrev Dl := List (Option DV)
abbrev Sx (l : List Nat) : Str := SX.S l
structure Ex where
  cls : String
  fs : List (Str × DV)
inductive Out where
  | ok (d : DV) (m : Mu) | exc (e : Ex) (m : Mu) | bad
inductive SOut where
  | nx (l : Dl) (m : Mu) | rt (d : DV) (m : Mu) | bk (l : Dl) (m : Mu) | ct (l : Dl) (m : Mu) | exc (e : Ex) (l : Dl) (m : Mu) | bad
abbrev DE := Dl → Mu → Out
abbrev DS := Dl → Mu → SOut
abbrev DA := Dl → Mu → (List DV → Mu → Out) → Out
/-- where the objects stand; fb: addresses of which no datum speaks -/
structure Al where
  f : Nat → Addr
  fb : Addr → Prop
instance : CoeFun Al (fun _ => Nat → Addr) := ⟨Al.f⟩
abbrev Cm := String → Addr
abbrev Frag' := PySem.W.Frag

def Sep (al : Al) (n : Nat) (a : Addr) : Prop := ∀ k, k < n → a ≠ al k
def LAt (K : Frag') (H : Hp) (al : Al) (n : Nat) (a : Addr) (xs : List V) : Prop := (Rd H a (.lst xs) ∧ Sep al n a ∧ ¬ al.fb a) ∨ SqL K (fun _ => none) a xs
def TAt (K : Frag') (H : Hp) (al : Al) (n : Nat) (a : Addr) (xs : List V) : Prop := (Rd H a (.tup xs) ∧ Sep al n a ∧ ¬ al.fb a) ∨ SqT K (fun _ => none) a xs

section
variable (K : Frag') (H : Hp) (al : Al) (n : Nat)
mutual
inductive R : V → DV → Prop
  | non : R .non .non
  | bl (b : Bool) : R (.bl b) (.bl b)
  | int (i : Int) : R (.int i) (.int i)
  | str (l : List Nat) : R (.str (Sx l)) (.str l)
  | ty (s : String) : R (.ty s) (.ty s)
  | lst {a : Addr} {xs : List V} {ds : List DV} : LAt K H al n a xs → RA xs ds → R (.ref a) (.lst ds)
  | tup {a : Addr} {xs : List V} {ds : List DV} : TAt K H al n a xs → RA xs ds → R (.ref a) (.tup ds)
  | obj {k : Nat} : k < n → R (.ref (al k)) (.obj k)
inductive RA : List V → List DV → Prop
  | nil : RA [] []
  | cons {v : V} {vs : List V} {d : DV} {ds : List DV} : R v d → RA vs ds → RA (v :: vs) (d :: ds)
end
/-- entries: the same keys, related values -/
inductive RK {κ : Type} : List (κ × V) → List (κ × DV) → Prop
  | nil : RK [] []
  | cons {k : κ} {v : V} {d : DV} {vs : List (κ × V)} {ds : List (κ × DV)} : R K H al n v d → RK vs ds → RK ((k, v) :: vs) ((k, d) :: ds)
def MR (cm : Cm) (a : Addr) : MO → Prop
  | .lst ds => ∃ xs, H a = some (.lst xs) ∧ RA K H al n xs ds
  | .dic kvs => ∃ ws, H a = some (.dK ws) ∧ RK K H al n ws kvs
  | .ins c fs => ∃ dx ws, H a = some (.ins (cm c) dx ws) ∧ RK K H al n ws fs
end
/-- the store mu stands in the heap -/
structure SR (K : Frag') (cm : Cm) (H : Hp) (al : Al) (mu : Mu) : Prop where
  inj : ∀ i j, i < mu.length → j < mu.length → al i = al j → i = j
  ob : ∀ k m, mu[k]? = some m → MR K H al mu.length cm (al k) m
  fbt : ∀ a, al.fb a → ∃ o, H a = some o
/-- a later heap: what is no object that may change stands as it was -/
structure Lt (H : Hp) (al : Al) (n : Nat) (H' : Hp) (al' : Al) (n' : Nat) : Prop where
  len : n ≤ n'
  same : ∀ k, k < n → al' k = al k
  fbm : ∀ a, al.fb a → al'.fb a
  keep : ∀ a o, H a = some o → Sep al n a → H' a = some o ∧ Sep al' n' a ∧ (¬ al.fb a → ¬ al'.fb a)

section
variable {K : Frag'} {cm : Cm} {H H' H2 : Hp} {al al' al2 : Al} {n n' n2 : Nat}
theorem Lt.refl : Lt H al n H al n := ⟨Nat.le_refl _, fun _ _ => rfl, fun _ h => h, fun _ _ h s => ⟨h, s, fun z => z⟩⟩
theorem Lt.trans (a : Lt H al n H' al' n') (b : Lt H' al' n' H2 al2 n2) : Lt H al n H2 al2 n2 :=
  ⟨Nat.le_trans a.len b.len, fun k h => (b.same k (Nat.lt_of_lt_of_le h a.len)).trans (a.same k h), fun x h => b.fbm x (a.fbm x h), fun x o h s => let ⟨h1, s1, z1⟩ := a.keep x o h s; let ⟨h2, s2, z2⟩ := b.keep x o h1 s1; ⟨h2, s2, fun q => z2 (z1 q)⟩⟩
theorem LAt.mono (t : Lt H al n H' al' n') {a : Addr} {xs : List V} (h : LAt K H al n a xs) : LAt K H' al' n' a xs := by
  rcases h with ⟨h | ⟨o, h⟩, s, f⟩ | h
  · obtain ⟨h1, s1, z⟩ := t.keep a _ h s; exact .inl ⟨.inl h1, s1, z f⟩
  · obtain ⟨h1, s1, z⟩ := t.keep a _ h s; exact .inl ⟨.inr ⟨o, h1⟩, s1, z f⟩
  · exact .inr h
theorem TAt.mono (t : Lt H al n H' al' n') {a : Addr} {xs : List V} (h : TAt K H al n a xs) : TAt K H' al' n' a xs := by
  rcases h with ⟨h | ⟨o, h⟩, s, f⟩ | h
  · obtain ⟨h1, s1, z⟩ := t.keep a _ h s; exact .inl ⟨.inl h1, s1, z f⟩
  · obtain ⟨h1, s1, z⟩ := t.keep a _ h s; exact .inl ⟨.inr ⟨o, h1⟩, s1, z f⟩
  · exact .inr h
theorem none_L {a : Addr} {xs : List V} (h : SqL K (fun _ => none) a xs) : SqL K H a xs := by
  rcases h with (h | ⟨o, h⟩) | h
  · cases h
  · cases h
  · exact .inr h
theorem none_T {a : Addr} {xs : List V} (h : SqT K (fun _ => none) a xs) : SqT K H a xs := by
  rcases h with (h | ⟨o, h⟩) | h
  · cases h
  · cases h
  · exact .inr h
theorem LAt.sq {a : Addr} {xs : List V} (h : LAt K H al n a xs) : SqL K H a xs := h.elim (fun z => .inl z.1) none_L
theorem TAt.sq {a : Addr} {xs : List V} (h : TAt K H al n a xs) : SqT K H a xs := h.elim (fun z => .inl z.1) none_T
mutual
theorem R.mono (t : Lt H al n H' al' n') : ∀ {v : V} {d : DV}, R K H al n v d → R K H' al' n' v d
  | _, _, .non => .non
  | _, _, .bl b => .bl b
  | _, _, .int i => .int i
  | _, _, .str l => .str l
  | _, _, .ty s => .ty s
  | _, _, .lst h r => .lst (h.mono t) (RA.mono t r)
  | _, _, .tup h r => .tup (h.mono t) (RA.mono t r)
  | _, _, .obj (k := k) h => by
    rw [← t.same k h]
    exact .obj (Nat.lt_of_lt_of_le h t.len)
theorem RA.mono (t : Lt H al n H' al' n') : ∀ {vs : List V} {ds : List DV}, RA K H al n vs ds → RA K H' al' n' vs ds
  | _, _, .nil => .nil
  | _, _, .cons r q => .cons (R.mono t r) (RA.mono t q)
end
theorem RK.mono {κ : Type} (t : Lt H al n H' al' n') : ∀ {vs : List (κ × V)} {ds : List (κ × DV)}, RK K H al n vs ds → RK K H' al' n' vs ds
  | _, _, .nil => .nil
  | _, _, .cons r q => .cons (r.mono t) (RK.mono t q)
theorem MR.mono (t : Lt H al n H' al' n') {a : Addr} {m : MO} (h : MR K H al n cm a m) (e : H' a = H a) : MR K H' al' n' cm a m := by
  cases m with
  | lst ds => obtain ⟨xs, h1, h2⟩ := h; exact ⟨xs, e.trans h1, h2.mono t⟩
  | dic kvs => obtain ⟨xs, h1, h2⟩ := h; exact ⟨xs, e.trans h1, h2.mono t⟩
  | ins c fs => obtain ⟨dx, xs, h1, h2⟩ := h; exact ⟨dx, xs, e.trans h1, h2.mono t⟩
theorem MR.some {a : Addr} {m : MO} (h : MR K H al n cm a m) : ∃ o, H a = some o ∧ Mut (some o) := by
  cases m with
  | lst ds => obtain ⟨xs, h1, _⟩ := h; exact ⟨_, h1, trivial⟩
  | dic kvs => obtain ⟨xs, h1, _⟩ := h; exact ⟨_, h1, trivial⟩
  | ins c fs => obtain ⟨dx, xs, h1, _⟩ := h; exact ⟨_, h1, trivial⟩
theorem RA.len : ∀ {vs : List V} {ds : List DV}, RA K H al n vs ds → vs.length = ds.length
  | _, _, .nil => rfl
  | _, _, .cons _ q => congrArg (· + 1) (RA.len q)
theorem RA.get : ∀ {vs : List V} {ds : List DV} {i : Nat} {d : DV}, RA K H al n vs ds → ds[i]? = some d → ∃ v, vs[i]? = some v ∧ R K H al n v d
  | _, _, _, _, .nil, h => by simp at h
  | _, _, 0, _, .cons r _, h => by simp at h; subst h; exact ⟨_, rfl, r⟩
  | _, _, i + 1, _, .cons _ q, h => by
    obtain ⟨v, h1, h2⟩ := RA.get (i := i) q (by simpa using h)
    exact ⟨v, by simpa using h1, h2⟩
theorem RA.getV : ∀ {vs : List V} {ds : List DV} {i : Nat} {v : V}, RA K H al n vs ds → vs[i]? = some v → ∃ d, ds[i]? = some d ∧ R K H al n v d
  | _, _, _, _, .nil, h => by simp at h
  | _, _, 0, _, .cons r _, h => by simp at h; subst h; exact ⟨_, rfl, r⟩
  | _, _, i + 1, _, .cons _ q, h => by
    obtain ⟨v, h1, h2⟩ := RA.getV (i := i) q (by simpa using h)
    exact ⟨v, by simpa using h1, h2⟩
theorem RA.app : ∀ {vs ws : List V} {ds es : List DV}, RA K H al n vs ds → RA K H al n ws es → RA K H al n (vs ++ ws) (ds ++ es)
  | _, _, _, _, .nil, h => h
  | _, _, _, _, .cons r q, h => .cons r (RA.app q h)
theorem RA.take : ∀ {vs : List V} {ds : List DV} (i : Nat), RA K H al n vs ds → RA K H al n (vs.take i) (ds.take i)
  | _, _, 0, _ => .nil
  | _, _, _ + 1, .nil => .nil
  | _, _, i + 1, .cons r q => .cons r (RA.take i q)
theorem RA.drop : ∀ {vs : List V} {ds : List DV} (i : Nat), RA K H al n vs ds → RA K H al n (vs.drop i) (ds.drop i)
  | _, _, 0, q => q
  | _, _, _ + 1, .nil => .nil
  | _, _, i + 1, .cons r q => RA.drop i q
theorem RA.set : ∀ {vs : List V} {ds : List DV} (i : Nat) {v : V} {d : DV}, RA K H al n vs ds → R K H al n v d → RA K H al n (vs.set i v) (ds.set i d)
  | _, _, _, _, _, .nil, _ => .nil
  | _, _, 0, _, _, .cons r q, h => .cons h q
  | _, _, i + 1, _, _, .cons r q, h => .cons r (RA.set i q h)
theorem RA.rev : ∀ {vs : List V} {ds : List DV}, RA K H al n vs ds → RA K H al n vs.reverse ds.reverse
  | _, _, .nil => .nil
  | _, _, .cons r q => by rw [List.reverse_cons, List.reverse_cons]; exact (RA.rev q).app (.cons r .nil)

/-! ### new things -/
theorem SR.sep {mu : Mu} (s : SR K cm H al mu) {p : Addr} (h : H p = none) : Sep al mu.length p := fun k hk e => by
  obtain ⟨o, ho, _⟩ := (s.ob k _ (List.getElem?_eq_getElem hk)).some
  rw [← e, h] at ho
  cases ho
theorem SR.nf {mu : Mu} (s : SR K cm H al mu) {p : Addr} (h : H p = none) : ¬ al.fb p := fun z => by
  obtain ⟨o, ho⟩ := s.fbt p z
  rw [h] at ho
  cases ho
theorem Lt.new {mu : Mu} {p : Addr} {o : HO} (h : H p = none) : Lt H al n (upd H p o) al n :=
  ⟨Nat.le_refl _, fun _ _ => rfl, fun _ h => h, fun a u ha s => ⟨by rw [upd_ne (ne_of_none ha h)]; exact ha, s, fun z => z⟩⟩
theorem SR.later {mu : Mu} (s : SR K cm H al mu) (t : Lt H al mu.length H' al mu.length) (e : ∀ k, k < mu.length → H' (al k) = H (al k)) (ft : ∀ a, al.fb a → ∃ o, H' a = some o) : SR K cm H' al mu :=
  ⟨s.inj, fun k m hk => (s.ob k m hk).mono t (e k (List.getElem?_eq_some_iff.mp hk).1), ft⟩
/-- a new thing that never changes -/
theorem SR.new {mu : Mu} {p : Addr} {o : HO} (s : SR K cm H al mu) (h : H p = none) : SR K cm (upd H p o) al mu :=
  s.later (Lt.new (mu := mu) h) (fun k hk => upd_ne fun e => s.sep h k hk e.symm) fun a fa => let ⟨o', q⟩ := s.fbt a fa; ⟨o', by rw [upd_ne (ne_of_none q h)]; exact q⟩
def ext (al : Al) (n : Nat) (p : Addr) : Al := ⟨fun k => if k = n then p else al k, al.fb⟩
theorem ext_same {p : Addr} : ext al n p n = p := if_pos rfl
theorem ext_ne {p : Addr} {k : Nat} (h : k < n) : ext al n p k = al k := if_neg (Nat.ne_of_lt h)
/-- a new object that may change: its heap is told -/
theorem Lt.newM {p : Addr} (hk : ∀ a u, H a = some u → H' a = some u) (hp : H p = none) : Lt H al n H' (ext al n p) (n + 1) :=
  ⟨Nat.le_succ _, fun k h => ext_ne h, fun _ h => h, fun a u ha s => ⟨hk a u ha, fun k hk' e => by
    by_cases h : k = n
    · subst h
      rw [ext_same] at e
      rw [e, hp] at ha
      cases ha
    · rw [ext_ne (by omega)] at e
      exact s k (by omega) e, fun z => z⟩⟩
theorem SR.newM {mu : Mu} {p : Addr} {m : MO} (s : SR K cm H al mu) (hk : ∀ a u, H a = some u → H' a = some u) (hp : H p = none) (hm : MR K H' (ext al mu.length p) (mu.length + 1) cm p m) : SR K cm H' (ext al mu.length p) (mu ++ [m]) := by
  have sp := s.sep hp
  refine ⟨fun i j hi hj e => ?_, fun k u hu => ?_, fun a fa => let ⟨o', q⟩ := s.fbt a fa; ⟨o', hk a o' q⟩⟩
  · rw [List.length_append, List.length_singleton] at hi hj
    by_cases h1 : i = mu.length
    · by_cases h2 : j = mu.length
      · omega
      · rw [h1, ext_same, ext_ne (by omega)] at e
        exact absurd e (sp j (by omega))
    · by_cases h2 : j = mu.length
      · rw [h2, ext_same, ext_ne (by omega)] at e
        exact absurd e.symm (sp i (by omega))
      · rw [ext_ne (by omega), ext_ne (by omega)] at e
        exact s.inj i j (by omega) (by omega) e
  · rw [List.length_append, List.length_singleton]
    by_cases h1 : k < mu.length
    · rw [List.getElem?_append_left h1] at hu
      rw [ext_ne h1]
      have z := s.ob k u hu
      obtain ⟨o, ho, _⟩ := z.some
      exact z.mono (Lt.newM hk hp) ((hk _ _ ho).trans ho.symm)
    · have hk' := (List.getElem?_eq_some_iff.mp hu).1
      rw [List.length_append, List.length_singleton] at hk'
      have e : k = mu.length := by omega
      subst e
      rw [List.getElem?_append_right (Nat.le_refl _), Nat.sub_self] at hu
      cases hu
      rw [ext_same]
      exact hm
/-- an object changes -/
theorem Lt.put {k : Nat} {o : HO} (hk : k < n) : Lt H al n (upd H (al k) o) al n :=
  ⟨Nat.le_refl _, fun _ _ => rfl, fun _ h => h, fun a u ha s => ⟨by rw [upd_ne (s k hk)]; exact ha, s, fun z => z⟩⟩
theorem SR.put {mu : Mu} {k : Nat} {o : HO} {m : MO} (s : SR K cm H al mu) (hk : k < mu.length) (hm : MR K (upd H (al k) o) al mu.length cm (al k) m) : SR K cm (upd H (al k) o) al (mu.set k m) := by
  refine ⟨fun i j hi hj => s.inj i j (by rw [List.length_set] at hi; exact hi) (by rw [List.length_set] at hj; exact hj), fun j u hu => ?_, fun a fa => let ⟨o', q⟩ := s.fbt a fa; ?_⟩
  rotate_left
  · by_cases e : a = al k
    · exact ⟨o, by rw [e]; exact upd_same⟩
    · exact ⟨o', by rw [upd_ne e]; exact q⟩
  rw [List.length_set]
  by_cases e : k = j
  · subst e
    rw [List.getElem?_set_self hk] at hu
    cases hu
    exact hm
  · rw [List.getElem?_set_ne e] at hu
    have hj := (List.getElem?_eq_some_iff.mp hu).1
    exact (s.ob j u hu).mono (Lt.put hk) (upd_ne fun z => e (s.inj k j hk hj z.symm))
end

/-! ### slots -/
structure SlD (K : Frag') (H : Hp) (al : Al) (n : Nat) (sg : L2.St) (dl : Dl) : Prop where
  len : sg.length = dl.length
  at_ : ∀ (i : Nat) (d : DV), dl[i]? = some (some d) → ∃ v, sg[i]? = some (some v) ∧ R K H al n v d
section
variable {K : Frag'} {cm : Cm} {H H' H2 : Hp} {al al' al2 : Al} {n n' n2 : Nat} {sg : L2.St} {dl : Dl}
theorem SlD.mono (t : Lt H al n H' al' n') (s : SlD K H al n sg dl) : SlD K H' al' n' sg dl := ⟨s.len, fun i d h => let ⟨v, h1, h2⟩ := s.at_ i d h; ⟨v, h1, h2.mono t⟩⟩
theorem SlD.set {i : Nat} {v : V} {d : DV} (s : SlD K H al n sg dl) (r : R K H al n v d) : SlD K H al n (sg.set i (some v)) (dl.set i (some d)) := by
  refine ⟨by rw [List.length_set, List.length_set]; exact s.len, fun j e h => ?_⟩
  by_cases hi : i = j
  · subst hi
    have hl := (List.getElem?_eq_some_iff.mp h).1
    rw [List.length_set] at hl
    rw [List.getElem?_set_self hl] at h
    cases h
    exact ⟨v, List.getElem?_set_self (by rw [s.len]; exact hl), r⟩
  · rw [List.getElem?_set_ne hi] at h
    rw [List.getElem?_set_ne hi]
    exact s.at_ j e h
theorem SlD.clr {i : Nat} (s : SlD K H al n sg dl) (o : Option V) : SlD K H al n (sg.set i o) (dl.set i none) := by
  refine ⟨by rw [List.length_set, List.length_set]; exact s.len, fun j e h => ?_⟩
  by_cases hi : i = j
  · subst hi
    have hl := (List.getElem?_eq_some_iff.mp h).1
    rw [List.length_set] at hl
    rw [List.getElem?_set_self hl] at h
    cases h
  · rw [List.getElem?_set_ne hi] at h
    rw [List.getElem?_set_ne hi]
    exact s.at_ j e h
def startD (m : Nat) (ds : List DV) : Dl := ds.map some ++ List.replicate (m - ds.length) none
theorem SlD.start {N : List Str} {vs : List V} {ds : List DV} (r : RA K H al n vs ds) : SlD K H al n (L2.start N vs) (startD N.length ds) := by
  have hl := r.len
  unfold L2.start startD
  refine ⟨by rw [List.length_append, List.length_append, List.length_map, List.length_map, List.length_replicate, List.length_replicate, hl], fun i d h => ?_⟩
  by_cases hi : i < ds.length
  · rw [List.getElem?_append_left (by simpa using hi), List.getElem?_map] at h
    rw [List.getElem?_append_left (by rw [List.length_map, hl]; exact hi), List.getElem?_map]
    cases e : ds[i]? with
    | none => rw [e] at h; cases h
    | some u =>
      rw [e] at h
      cases h
      obtain ⟨v, h1, h2⟩ := r.get e
      exact ⟨v, by rw [h1]; rfl, h2⟩
  · rw [List.getElem?_append_right (by simpa using hi), List.getElem?_replicate] at h
    split at h <;> cases h
end

/-! ### outcomes -/
def xcl (cm : Cm) (c : String) : Value := .ref (cm c)
/-- how the fields of an exception lie -/
def XR (K : Frag') (H : Hp) (al : Al) (n : Nat) (dd : Option Addr) (fs : List (Str × DV)) : Prop :=
  (dd = none ∧ fs = []) ∨ ∃ d ws, dd = some d ∧ H d = some (.xd ws) ∧ (Sep al n d ∧ ¬ al.fb d) ∧ RK K H al n ws fs
theorem XR.mono {K : Frag'} {H H' : Hp} {al al' : Al} {n n' : Nat} {dd : Option Addr} {fs : List (Str × DV)} (t : Lt H al n H' al' n') (h : XR K H al n dd fs) : XR K H' al' n' dd fs := by
  rcases h with h | ⟨d, ws, e, h1, h2, h3⟩
  · exact .inl h
  · obtain ⟨q1, q2, q3⟩ := t.keep d _ h1 h2.1
    exact .inr ⟨d, ws, e, q1, ⟨q2, q3 h2.2⟩, h3.mono t⟩
def OOk (K : Frag') (cm : Cm) (H : Hp) (al : Al) (n : Nat) (o : Out) (Q : VK) (E : XK) : Prop :=
  match o with
  | .ok d mu => ∀ v H' al', SR K cm H' al' mu → Lt H al n H' al' mu.length → R K H' al' mu.length v d → Q v H'
  | .exc e mu => ∀ dd H' al', SR K cm H' al' mu → Lt H al n H' al' mu.length → XR K H' al' mu.length dd e.fs → E (xcl cm e.cls) dd H'
  | .bad => False
def SOk (K : Frag') (cm : Cm) (H : Hp) (al : Al) (n : Nat) (o : SOut) (D : Ends) (W : WX) : Prop :=
  match o with
  | .nx dl mu => ∀ sg H' al', SR K cm H' al' mu → Lt H al n H' al' mu.length → SlD K H' al' mu.length sg dl → D.nx sg H'
  | .bk dl mu => ∀ sg H' al', SR K cm H' al' mu → Lt H al n H' al' mu.length → SlD K H' al' mu.length sg dl → D.bk sg H'
  | .ct dl mu => ∀ sg H' al', SR K cm H' al' mu → Lt H al n H' al' mu.length → SlD K H' al' mu.length sg dl → D.ct sg H'
  | .rt d mu => ∀ v H' al', SR K cm H' al' mu → Lt H al n H' al' mu.length → R K H' al' mu.length v d → D.rt v H'
  | .exc e dl mu => ∀ dd sg H' al', SR K cm H' al' mu → Lt H al n H' al' mu.length → SlD K H' al' mu.length sg dl → XR K H' al' mu.length dd e.fs → W (xcl cm e.cls) dd sg H'
  | .bad => False
section
variable {K : Frag'} {cm : Cm} {H H' H2 : Hp} {al al' al2 : Al} {n n' n2 : Nat} {sg : L2.St} {dl : Dl} {mu : Mu}
theorem OOk.later {o : Out} {Q : VK} {E : XK} (t : Lt H al n H' al' n') (h : OOk K cm H al n o Q E) : OOk K cm H' al' n' o Q E := by
  cases o with
  | ok d mu => exact fun v H2 al2 s u r => h v H2 al2 s (t.trans u) r
  | exc e mu => exact fun v H2 al2 s u r => h v H2 al2 s (t.trans u) r
  | bad => exact h
theorem SOk.later {o : SOut} {D : Ends} {W : WX} (t : Lt H al n H' al' n') (h : SOk K cm H al n o D W) : SOk K cm H' al' n' o D W := by
  cases o with
  | nx d mu => exact fun v H2 al2 s u r => h v H2 al2 s (t.trans u) r
  | bk d mu => exact fun v H2 al2 s u r => h v H2 al2 s (t.trans u) r
  | ct d mu => exact fun v H2 al2 s u r => h v H2 al2 s (t.trans u) r
  | rt d mu => exact fun v H2 al2 s u r => h v H2 al2 s (t.trans u) r
  | exc e d mu => exact fun v sg H2 al2 s u r => h v sg H2 al2 s (t.trans u) r
  | bad => exact h
def Out.bind (o : Out) (k : DV → Mu → Out) : Out := match o with
  | .ok d mu => k d mu
  | .exc e mu => .exc e mu
  | .bad => .bad
/-- an expression of the text gives what f tells -/
def SndE (K : Frag') (cm : Cm) (W : WX) (t : TE) (f : DE) : Prop := ∀ (sg : L2.St) (H : Hp) (al : Al) (dl : Dl) (mu : Mu), SR K cm H al mu → SlD K H al mu.length sg dl → ∀ Q : VK, OOk K cm H al mu.length (f dl mu) Q (fun c d H' => W c d sg H') → t sg H Q
structure PDE (cm : Cm) (X : Cx) (W : WX) (e : Expr) (f : DE) : Prop where
  ex : ∃ t, PE X e t ∧ SndE X.K cm W t f
/-- the rule behind all: a part is reckoned, then the rest -/
theorem snd_bind {W : WX} {t : TE} {f : DE} {Q R1 : VK} {k : DV → Mu → Out} {E : XK} (hA : SndE K cm W t f) (s : SR K cm H al mu) (sl : SlD K H al mu.length sg dl) (hE : E = fun c d H' => W c d sg H')
    (h : OOk K cm H al mu.length ((f dl mu).bind k) Q E)
    (kont : ∀ d mu1 v H1 al1, SR K cm H1 al1 mu1 → Lt H al mu.length H1 al1 mu1.length → SlD K H1 al1 mu1.length sg dl → R K H1 al1 mu1.length v d → OOk K cm H1 al1 mu1.length (k d mu1) Q E → R1 v H1) : t sg H R1 := by
  refine hA sg H al dl mu s sl R1 ?_
  cases e : f dl mu with
  | ok d mu1 =>
    rw [e] at h
    exact fun v H1 al1 s1 t1 r1 => kont d mu1 v H1 al1 s1 t1 (sl.mono t1) r1 (OOk.later t1 h)
  | exc x mu1 =>
    rw [e] at h
    subst hE
    exact h
  | bad =>
    rw [e] at h
    exact h
end
end DM
/-! expressions -/
namespace DM
open PySem PySem.Spec PyProof.Rows L2

/-! ### names and constants -/
def eVar (i : Nat) : DE := fun dl mu => match dl[i]? with
  | some (some d) => .ok d mu
  | _ => .bad
def eC (d : DV) : DE := fun _ mu => .ok d mu
section
variable {cm : Cm} {X : Cx} {W : WX} {pos : Pos}
theorem snd_var {K : Frag'} {i : Nat} : SndE K cm W (tVar i) (eVar i) := fun sg H al dl mu s sl Q h => by
  unfold eVar at h
  cases e : dl[i]? with
  | none => rw [e] at h; exact h.elim
  | some o =>
    cases o with
    | none => rw [e] at h; exact h.elim
    | some d =>
      rw [e] at h
      obtain ⟨v, h1, h2⟩ := sl.at_ i d e
      exact ⟨v, h1, h v H al s Lt.refl h2⟩
theorem pd_var (i : Nat) {x : Str} (hN : X.N[i]? = some x := by rfl) (hv : Vis X.env.scope x := by first | exact Or.inl rfl | exact Or.inr (Or.inl rfl) | exact Or.inr (Or.inr rfl)) (hd : (x == ("__debug__" : Str)) = false := by decide)
    (hcd : (x == ("__classdict__" : Str)) = false := by decide) : PDE cm X W (.Name x pos) (eVar i) := ⟨_, pe_var hN hv hd hcd, snd_var⟩
theorem snd_c {K : Frag'} {v : V} {d : DV} (h : ∀ H al n, R K H al n v d) : SndE K cm W (tC v) (eC d) := fun sg H al dl mu s sl Q q => q v H al s Lt.refl (h H al _)
theorem pd_int {i j} : PDE cm X W (.Constant (.int i) j pos) (eC (.int i)) := ⟨_, pe_int, snd_c fun _ _ _ => .int i⟩
theorem pd_bl {b j} : PDE cm X W (.Constant (.bool b) j pos) (eC (.bl b)) := ⟨_, pe_bl, snd_c fun _ _ _ => .bl b⟩
theorem pd_non {j} : PDE cm X W (.Constant .none j pos) (eC .non) := ⟨_, pe_non, snd_c fun _ _ _ => .non⟩
theorem pd_str (l : List Nat) {x j} (h : x = Sx l := by decide +kernel) : PDE cm X W (.Constant (.str x) j pos) (eC (.str l)) := by
  subst h
  exact ⟨_, pe_str, snd_c fun _ _ _ => .str l⟩
theorem pd_glob {x : Str} {v : V} {d : DV} {u : Value} (hg : Gl X x) (hm : X.mg x = some u) (r : RelV v u) (h : ∀ H al n, R X.K H al n v d) (hd : (x == ("__debug__" : Str)) = false := by decide) : PDE cm X W (.Name x pos) (eC d) := ⟨_, pe_glob hg hm r hd, snd_c h⟩
theorem pd_ty {x : Str} {n : String} (hg : Gl X x) (hm : X.mg x = none) (hv : bootBuiltins x = some (.type n)) (hn : x ≠ "__name__" := by decide) (hd : (x == ("__debug__" : Str)) = false := by decide) : PDE cm X W (.Name x pos) (eC (.ty n)) :=
  ⟨_, pe_bltn (v := .ty n) hg hm hv rfl hn hd, snd_c fun _ _ _ => .ty n⟩
end

/-! ### two-place operations -/
def lift : Option DV → Mu → Out
  | some d, mu => .ok d mu
  | none, _ => .bad
abbrev G2 := DV → DV → Mu → Option DV
def eOp (g : G2) (fa fb : DE) : DE := fun dl mu => (fa dl mu).bind fun x m1 => (fb dl m1).bind fun y m2 => lift (g x y m2) m2
/-- an operation on values gives what g tells -/
def RS (K : Frag') (cm : Cm) (r : R2) (g : G2) : Prop := ∀ (H : Hp) (al : Al) (mu : Mu) (x y : V) (dx dy d : DV) (Q : VK), SR K cm H al mu → R K H al mu.length x dx → R K H al mu.length y dy → g dx dy mu = some d →
  (∀ v H', SR K cm H' al mu → Lt H al mu.length H' al mu.length → R K H' al mu.length v d → Q v H') → r x y H Q
section
variable {K : Frag'} {cm : Cm} {X : Cx} {W : WX} {pos : Pos} {a b : Expr} {fa fb : DE} {g g' : G2} {r r' : R2} {ta tb : TE}
theorem snd_op (hr : RS K cm r g) (ha : SndE K cm W ta fa) (hb : SndE K cm W tb fb) : SndE K cm W (tOp r ta tb) (eOp g fa fb) := fun sg H al dl mu s sl Q h => by
    refine snd_bind (R1 := fun x H1 => tb sg H1 fun y H2 => r x y H2 Q) ha s sl rfl h fun x m1 v1 H1 al1 s1 t1 sl1 r1 h1 => ?_
    refine snd_bind (R1 := fun y H2 => r v1 y H2 Q) hb s1 sl1 rfl h1 fun y m2 v2 H2 al2 s2 t2 sl2 r2 h2 => ?_
    cases e : g x y m2 with
    | none => rw [e] at h2; exact h2.elim
    | some d =>
      rw [e] at h2
      exact hr H2 al2 m2 v1 v2 x y d Q s2 (r1.mono t2) r2 e fun v H' s' t' r' => h2 v H' al2 s' t' r'
theorem pd_op {op : Operator} (ho : OpR X (binaryOp op) r) (hr : RS X.K cm r g) (ha : PDE cm X W a fa) (hb : PDE cm X W b fb) : PDE cm X W (.BinOp a op b pos) (eOp g fa fb) := by
  obtain ⟨ta, pa, sa⟩ := ha.ex
  obtain ⟨tb, pb, sb⟩ := hb.ex
  exact ⟨_, pe_op ho pa pb, snd_op hr sa sb⟩
theorem pd_cmp {op : CmpOp} (ho : OpR X (compareOp op) r) (hr : RS X.K cm r g) (ha : PDE cm X W a fa) (hb : PDE cm X W b fb) (hm : behindInMarks op b = false) : PDE cm X W (.Compare a [op] [b] pos) (eOp g fa fb) := by
  obtain ⟨ta, pa, sa⟩ := ha.ex
  obtain ⟨tb, pb, sb⟩ := hb.ex
  exact ⟨_, pe_cmpR ho pa pb hm, snd_op hr sa sb⟩
theorem OpR_or {f : Value → Value → Sem Value} (h : OpR X f r) (h' : OpR X f r') : OpR X f (fun x y H Q => r x y H Q ∨ r' x y H Q) := fun pins s σ H x y v u Q I r1 r2 q =>
  q.elim (h pins s σ H x y v u Q I r1 r2) (h' pins s σ H x y v u Q I r1 r2)
theorem RS_or (h : RS K cm r g) (h' : RS K cm r' g') {g2 : G2} (e : ∀ x y m d, g2 x y m = some d → g x y m = some d ∨ g' x y m = some d) : RS K cm (fun x y H Q => r x y H Q ∨ r' x y H Q) g2 := fun H al mu x y dx dy d Q s r1 r2 q k =>
  (e dx dy mu d q).elim (fun z => .inl (h H al mu x y dx dy d Q s r1 r2 z k)) (fun z => .inr (h' H al mu x y dx dy d Q s r1 r2 z k))
end
/-- the items of a list, unchanging or not -/
def lstOf (mu : Mu) : DV → Option (List DV)
  | .lst ds => some ds
  | .obj k => match mu[k]? with
    | some (.lst ds) => some ds
    | _ => none
  | _ => none
section
variable {K : Frag'} {cm : Cm} {H : Hp} {al : Al} {mu : Mu}
theorem lst_of {v : V} {d : DV} {ds : List DV} (s : SR K cm H al mu) (r : R K H al mu.length v d) (h : lstOf mu d = some ds) : ∃ a xs, v = .ref a ∧ SqL K H a xs ∧ RA K H al mu.length xs ds := by
  cases r with
  | lst hl ra => cases h; exact ⟨_, _, rfl, hl.sq, ra⟩
  | @obj k hk =>
    have h : (match mu[k]? with | some (.lst ds) => some ds | _ => none) = some ds := h
    cases e : mu[k]? with
    | none => rw [e] at h; cases h
    | some m =>
      cases m with
      | lst es =>
        rw [e] at h; cases h
        obtain ⟨xs, h1, h2⟩ := s.ob k _ e
        exact ⟨_, xs, rfl, SqL.of h1, h2⟩
      | dic _ => rw [e] at h; cases h
      | ins _ _ => rw [e] at h; cases h
  | _ => cases h
end

/-! ### numbers -/
def gI (C : Int → Int → Prop) [∀ i j, Decidable (C i j)] (f : Int → Int → DV) : G2
  | .int i, .int j, _ => if C i j then some (f i j) else none
  | _, _, _ => none
def gI0 (f : Int → Int → DV) : G2
  | .int i, .int j, _ => some (f i j)
  | _, _, _ => none
theorem rs_I0 {K : Frag'} {cm : Cm} {f : Int → Int → V} {f' : Int → Int → DV} (h : ∀ i j H al n, R K H al n (f i j) (f' i j)) : RS K cm (rI0 f) (gI0 f') := fun H al mu x y dx dy d Q s r1 r2 e k => by
  cases dx <;> cases dy <;> try (cases e; done)
  cases r1; cases r2; cases e
  exact ⟨_, _, rfl, rfl, k _ H s Lt.refl (h _ _ _ _ _)⟩
theorem rs_I {K : Frag'} {cm : Cm} {C : Int → Int → Prop} [∀ i j, Decidable (C i j)] {C' : Int → Int → Prop} {f : Int → Int → V} {f' : Int → Int → DV} (hc : ∀ i j, C i j → C' i j) (h : ∀ i j H al n, C i j → R K H al n (f i j) (f' i j)) : RS K cm (rI C' f) (gI C f') := fun H al mu x y dx dy d Q s r1 r2 e k => by
  cases dx <;> cases dy <;> try (cases e; done)
  rename_i i j
  cases r1; cases r2
  by_cases c : C i j
  · have e : (if C i j then some (f' i j) else none) = some d := e
    rw [if_pos c] at e
    cases e
    exact ⟨_, _, rfl, rfl, hc _ _ c, k _ H s Lt.refl (h _ _ _ _ _ c)⟩
  · have e : (if C i j then some (f' i j) else none) = some d := e
    rw [if_neg c] at e
    cases e
abbrev gSub : G2 := gI0 fun i j => .int (i - j)
abbrev gMul : G2 := gI (fun i j => (-18446744073709551616 < i ∧ i < 18446744073709551616) ∨ (-18446744073709551616 < j ∧ j < 18446744073709551616)) fun i j => .int (i * j)
abbrev gDiv : G2 := gI (fun _ j => 0 < j ∧ j < 1073741824) fun i j => .int (i / j)
abbrev gMod : G2 := gI (fun _ j => 0 < j) fun i j => .int (i % j)
abbrev gPow : G2 := gI (fun i j => 0 ≤ j ∧ j ≤ 1000000 ∧ i.natAbs < 18446744073709551616) fun i j => .int (i ^ j.toNat)
abbrev gShl : G2 := gI (fun i j => 0 ≤ j ∧ j ≤ 1000000 ∧ i.natAbs < 18446744073709551616) fun i j => .int (i * 2 ^ j.toNat)
abbrev gShr : G2 := gI (fun _ j => 0 ≤ j) fun i j => .int (i / 2 ^ j.toNat)
abbrev gAnd : G2 := gI0 fun i j => .int (Builtin.bitAnd i j)
abbrev gOr : G2 := gI0 fun i j => .int (Builtin.bitOr i j)
abbrev gXor : G2 := gI0 fun i j => .int (Builtin.bitXor i j)
abbrev gLt0 : G2 := gI0 fun i j => .bl (decide (i < j))
abbrev gLe : G2 := gI0 fun i j => .bl (decide (i ≤ j))
abbrev gGt : G2 := gI0 fun i j => .bl (decide (j < i))
abbrev gGe : G2 := gI0 fun i j => .bl (decide (j ≤ i))
def gAdd : G2
  | .int i, .int j, _ => some (.int (i + j))
  | .str a, .str b, _ => if a.length + b.length ≤ 1000000 then some (.str (a ++ b)) else none
  | x, y, mu => match lstOf mu x, lstOf mu y with
    | some a, some b => if a.length + b.length ≤ 1000000 then some (.lst (a ++ b)) else none
    | _, _ => none
section
variable {K : Frag'} {cm : Cm} {X : Cx} {W : WX} {pos : Pos} {a b : Expr} {fa fb : DE}
theorem pd_sub (ha : PDE cm X W a fa) (hb : PDE cm X W b fb) : PDE cm X W (.BinOp a .Sub b pos) (eOp gSub fa fb) := pd_op op_sub (rs_I0 fun _ _ _ _ _ => .int _) ha hb
theorem pd_mul (ha : PDE cm X W a fa) (hb : PDE cm X W b fb) : PDE cm X W (.BinOp a .Mult b pos) (eOp gMul fa fb) := pd_op op_mul (rs_I (fun i j h => by unfold CMul; exact h) fun _ _ _ _ _ _ => .int _) ha hb
theorem pd_div (ha : PDE cm X W a fa) (hb : PDE cm X W b fb) : PDE cm X W (.BinOp a .FloorDiv b pos) (eOp gDiv fa fb) := pd_op op_fdiv (rs_I (fun i j h => h) fun _ _ _ _ _ _ => .int _) ha hb
theorem pd_mod (ha : PDE cm X W a fa) (hb : PDE cm X W b fb) : PDE cm X W (.BinOp a .Mod b pos) (eOp gMod fa fb) := pd_op op_mod (rs_I (fun i j h => h) fun _ _ _ _ _ _ => .int _) ha hb
theorem pd_pow (ha : PDE cm X W a fa) (hb : PDE cm X W b fb) : PDE cm X W (.BinOp a .Pow b pos) (eOp gPow fa fb) := pd_op op_pow (rs_I (fun i j h => by unfold CPow; exact h) fun _ _ _ _ _ _ => .int _) ha hb
theorem pd_shl (ha : PDE cm X W a fa) (hb : PDE cm X W b fb) : PDE cm X W (.BinOp a .LShift b pos) (eOp gShl fa fb) := pd_op op_shl (rs_I (fun i j h => by unfold CPow; exact h) fun _ _ _ _ _ _ => .int _) ha hb
theorem pd_shr (ha : PDE cm X W a fa) (hb : PDE cm X W b fb) : PDE cm X W (.BinOp a .RShift b pos) (eOp gShr fa fb) := pd_op op_shr (rs_I (fun i j h => h) fun _ _ _ _ _ _ => .int _) ha hb
theorem pd_band (ha : PDE cm X W a fa) (hb : PDE cm X W b fb) : PDE cm X W (.BinOp a .BitAnd b pos) (eOp gAnd fa fb) := pd_op op_and (rs_I0 fun _ _ _ _ _ => .int _) ha hb
theorem pd_bor (ha : PDE cm X W a fa) (hb : PDE cm X W b fb) : PDE cm X W (.BinOp a .BitOr b pos) (eOp gOr fa fb) := pd_op op_or (rs_I0 fun _ _ _ _ _ => .int _) ha hb
theorem pd_bxor (ha : PDE cm X W a fa) (hb : PDE cm X W b fb) : PDE cm X W (.BinOp a .BitXor b pos) (eOp gXor fa fb) := pd_op op_xor (rs_I0 fun _ _ _ _ _ => .int _) ha hb
/-- two lists, read wherever they lie -/
def rCatL (K : Frag') : R2 := fun x y H Q => ∃ l b xs zs, x = .ref l ∧ y = .ref b ∧ SqL K H l xs ∧ SqL K H b zs ∧ xs.length + zs.length ≤ sizeLine ∧ ∀ p, H p = none → Q (.ref p) (upd H p (.lst (xs ++ zs)))
theorem op_catL : OpR X (binaryOp .Add) (rCatL X.K) := by
  intro pins s σ H x y v u Q I rx ry h
  obtain ⟨l, b, xs, zs, rfl, rfl, hH, hB, hz, q⟩ := h
  cases rx
  cases ry
  obtain ⟨its, rv, ⟨o, n, ho, hc, hdi, hd⟩, _⟩ := I.list hH
  obtain ⟨its2, rv2, ⟨o2, n2, ho2, hc2, hdi2, hd2⟩, _⟩ := I.list hB
  have hl := rv.length
  have hl2 := rv2.length
  obtain ⟨cls, dd, data, slt⟩ := o
  obtain ⟨cls2, dd2, data2, slt2⟩ := o2
  simp only at hc hd hdi hc2 hd2 hdi2
  subst hc hd hdi hc2 hd2 hdi2
  have ea : its.toArray ++ its2.toArray = (its ++ its2).toArray := by simp
  refine concat_meets ⟨_, ho, rfl⟩ ⟨_, ho2, rfl⟩ noFill_list_add seq_list_add F.slot_list_add F.entry_list_add (F.args_list_add_2 _ _) (PyProof.Rows.list_addW l b its.toArray its2.toArray n n2 none none slt slt2 (by rw [List.size_toArray, List.size_toArray]; omega)) ⟨ho, ho2, ?_⟩
  rw [ea]
  exact ⟨.ref _, _, I.lnew (t' := s.toks) (rv.append rv2) (by rw [List.length_append]; omega), rfl, q _ I.fresh⟩
theorem line_big {n : Nat} (h : n ≤ 1000000) : n ≤ sizeLine := Nat.le_trans h (by decide)
theorem rs_add : RS K cm (fun x y H Q => rI0 (fun i j => V.int (i + j)) x y H Q ∨ ((∃ i j, x = .str i ∧ y = .str j ∧ i.length + j.length ≤ sizeLine ∧ Q (.str (i ++ j)) H) ∨ rCatL K x y H Q)) gAdd := fun H al mu x y dx dy d Q s r1 r2 e k => by
  have lists : ∀ {a b : List DV}, lstOf mu dx = some a → lstOf mu dy = some b → (if a.length + b.length ≤ 1000000 then some (DV.lst (a ++ b)) else none) = some d → rCatL K x y H Q := fun {a b} ea eb e => by
    obtain ⟨l1, xs, rfl, h1, q1⟩ := lst_of s r1 ea
    obtain ⟨l2, ys, rfl, h2, q2⟩ := lst_of s r2 eb
    by_cases c : a.length + b.length ≤ 1000000
    · rw [if_pos c] at e
      cases e
      refine ⟨l1, l2, xs, ys, rfl, rfl, h1, h2, line_big (by rw [q1.len, q2.len]; exact c), fun p hp => ?_⟩
      have t : Lt H al mu.length (upd H p (.lst (xs ++ ys))) al mu.length := Lt.new (mu := mu) hp
      exact k _ _ (s.new hp) t (.lst (.inl ⟨.inl upd_same, s.sep hp, s.nf hp⟩) ((q1.app q2).mono t))
    · rw [if_neg c] at e
      cases e
  have other : (match lstOf mu dx, lstOf mu dy with | some a, some b => if a.length + b.length ≤ 1000000 then some (DV.lst (a ++ b)) else none | _, _ => none) = some d → rCatL K x y H Q := fun e => by
    cases ea : lstOf mu dx with
    | none => rw [ea] at e; cases e
    | some a =>
      cases eb : lstOf mu dy with
      | none => rw [ea, eb] at e; cases e
      | some b => rw [ea, eb] at e; exact lists ea eb e
  cases dx with
  | int i =>
    cases dy with
    | int j => cases r1; cases r2; cases e; exact .inl ⟨_, _, rfl, rfl, k _ H s Lt.refl (.int _)⟩
    | _ => exact .inr (.inr (other e))
  | str i =>
    cases dy with
    | str j =>
      cases r1; cases r2
      have e : (if i.length + j.length ≤ 1000000 then some (DV.str (i ++ j)) else none) = some d := e
      by_cases c : i.length + j.length ≤ 1000000
      · rw [if_pos c] at e
        cases e
        refine .inr (.inl ⟨_, _, rfl, rfl, line_big (by rw [SX.S_len, SX.S_len]; exact c), ?_⟩)
        rw [SX.S_cat]
        exact k _ H s Lt.refl (.str _)
      · rw [if_neg c] at e
        cases e
    | _ => exact .inr (.inr (other e))
  | _ => exact .inr (.inr (other e))
theorem pd_add (ha : PDE cm X W a fa) (hb : PDE cm X W b fb) : PDE cm X W (.BinOp a .Add b pos) (eOp gAdd fa fb) := pd_op (OpR_or op_add (OpR_or op_add_str op_catL)) rs_add ha hb
end

/-! ### comparisons -/
def pdF : Nat → Mu → DV → Option PyData
  | 0, _, _ => none
  | _ + 1, _, .non => some .none
  | _ + 1, _, .bl b => some (.bool b)
  | _ + 1, _, .int i => some (.int i)
  | _ + 1, _, .str l => if l.all (· < 1114112) then some (.str (Sx l)) else none
  | _ + 1, _, .ty _ => none
  | f + 1, mu, .lst ds => (ds.mapM (pdF f mu)).map .list
  | f + 1, mu, .tup ds => (ds.mapM (pdF f mu)).map .tuple
  | f + 1, mu, .obj k => match mu[k]? with
    | some (.lst ds) => (ds.mapM (pdF f mu)).map .list
    | _ => none
def gEqB (x y : DV) (mu : Mu) : Option Bool := match x, y with
  | .non, .non => some true
  | .non, .int _ => some false | .int _, .non => some false | .non, .bl _ => some false | .bl _, .non => some false | .non, .str _ => some false | .str _, .non => some false
  | .int i, .int j => some (decide (i = j))
  | .bl i, .bl j => some (decide (i = j))
  | .str i, .str j => some (decide (i = j))
  | .int _, .str _ => some false | .str _, .int _ => some false | .bl _, .str _ => some false | .str _, .bl _ => some false
  | x, y => match pdF 8 mu x, pdF 8 mu y with
    | some a, some b => some (PyData.eqv a b)
    | _, _ => none
def gEq : G2 := fun x y mu => (gEqB x y mu).map .bl
def gNe : G2 := fun x y mu => (gEqB x y mu).map fun b => .bl (!b)
section
variable {K : Frag'} {cm : Cm} {X : Cx} {W : WX} {pos : Pos} {a b : Expr} {fa fb : DE} {H : Hp} {al : Al} {mu : Mu}
theorem pdAll {f : Nat} (ih : ∀ {v : V} {d : DV} {p : PyData}, R K H al mu.length v d → pdF f mu d = some p → Dp K H v p ∧ p.canLay0 = true ∧ p.depth ≤ f) :
    ∀ {vs : List V} {ds : List DV} {ps : List PyData}, RA K H al mu.length vs ds → ds.mapM (pdF f mu) = some ps → DpAll K H vs ps ∧ PyData.canLayAll0 ps = true ∧ PyData.depthAll ps ≤ f
  | _, _, _, .nil, e => by
    cases e
    exact ⟨.nil, by simp [PyData.canLayAll0], by simp [PyData.depthAll]⟩
  | _, _, _, .cons (d := d) (ds := ds) r q, e => by
    rw [List.mapM_cons] at e
    cases e1 : pdF f mu d with
    | none => rw [e1] at e; cases e
    | some p =>
      cases e2 : ds.mapM (pdF f mu) with
      | none => rw [e1, e2] at e; cases e
      | some ps' =>
        rw [e1, e2] at e
        cases e
        obtain ⟨h1, h2, h3⟩ := ih r e1
        obtain ⟨g1, g2, g3⟩ := pdAll ih q e2
        refine ⟨.cons h1 g1, ?_, ?_⟩
        · show (p.canLay0 && PyData.canLayAll0 ps') = true
          rw [h2, g2] <;> rfl
        · show max p.depth (PyData.depthAll ps') ≤ f
          omega
theorem pd_ok (s : SR K cm H al mu) : ∀ {f : Nat} {v : V} {d : DV} {p : PyData}, R K H al mu.length v d → pdF f mu d = some p → Dp K H v p ∧ p.canLay0 = true ∧ p.depth ≤ f
  | 0, _, _, _, _, e => by cases e
  | f + 1, v, d, p, r, e => by
    cases d with
    | non => cases r; cases e; exact ⟨.non, rfl, Nat.zero_le _⟩
    | bl b => cases r; cases e; exact ⟨.bl b, rfl, Nat.zero_le _⟩
    | int b => cases r; cases e; exact ⟨.int b, rfl, Nat.zero_le _⟩
    | ty b => cases e
    | str l =>
      cases r
      have e : (if l.all (· < 1114112) then some (PyData.str (Sx l)) else none) = some p := e
      by_cases c : l.all (· < 1114112) = true
      · rw [if_pos c] at e
        cases e
        refine ⟨.str _, ?_, Nat.zero_le _⟩
        show PyData.strOk (Sx l) = true
        show (Sx l).cps.all (· < 0x110000) = true
        rw [← Array.all_toList]
        exact c
      · rw [if_neg c] at e
        cases e
    | lst ds =>
      cases r with
      | lst hl ra =>
        have e : (ds.mapM (pdF f mu)).map PyData.list = some p := e
        cases e2 : ds.mapM (pdF f mu) with
        | none => rw [e2] at e; cases e
        | some ps =>
          rw [e2] at e
          cases e
          obtain ⟨g1, g2, g3⟩ := pdAll (pd_ok s) ra e2
          exact ⟨.lst hl.sq g1, g2, Nat.succ_le_succ g3⟩
    | tup ds =>
      cases r with
      | tup hl ra =>
        have e : (ds.mapM (pdF f mu)).map PyData.tuple = some p := e
        cases e2 : ds.mapM (pdF f mu) with
        | none => rw [e2] at e; cases e
        | some ps =>
          rw [e2] at e
          cases e
          obtain ⟨g1, g2, g3⟩ := pdAll (pd_ok s) ra e2
          exact ⟨.tup hl.sq g1, g2, Nat.succ_le_succ g3⟩
    | obj k =>
      have e : (match mu[k]? with | some (.lst ds) => (ds.mapM (pdF f mu)).map PyData.list | _ => none) = some p := e
      cases em : mu[k]? with
      | none => rw [em] at e; cases e
      | some m =>
        cases m with
        | lst es =>
          rw [em] at e
          have e : (es.mapM (pdF f mu)).map PyData.list = some p := e
          obtain ⟨l, xs, rfl, h1, q1⟩ := lst_of (ds := es) s r (by show (match mu[k]? with | some (.lst ds) => some ds | _ => none) = some es; rw [em])
          cases e2 : es.mapM (pdF f mu) with
          | none => rw [e2] at e; cases e
          | some ps =>
            rw [e2] at e
            cases e
            obtain ⟨g1, g2, g3⟩ := pdAll (pd_ok s) q1 e2
            exact ⟨.lst h1 g1, g2, Nat.succ_le_succ g3⟩
        | dic _ => rw [em] at e; cases e
        | ins _ _ => rw [em] at e; cases e
theorem shaped8 {p : PyData} (h : p.canLay0 = true) (d : p.depth ≤ 8) : SeqAt.shaped p = true := by
  unfold SeqAt.shaped
  rw [h, Bool.true_and]
  exact decide_eq_true (Nat.le_trans d (by decide))
/-- the answer of == -/
theorem eq_core (s : SR K cm H al mu) {x y : V} {dx dy : DV} {c : Bool} (r1 : R K H al mu.length x dx) (r2 : R K H al mu.length y dy) (e : gEqB dx dy mu = some c) :
    (scal x y = true ∧ decide (x = y) = c) ∨ ∃ p q, Dp K H x p ∧ Dp K H y q ∧ SeqAt.shaped p = true ∧ SeqAt.shaped q = true ∧ PyData.eqv p q = c := by
  have other : (match pdF 8 mu dx, pdF 8 mu dy with | some a, some b => some (PyData.eqv a b) | _, _ => none) = some c → ∃ p q, Dp K H x p ∧ Dp K H y q ∧ SeqAt.shaped p = true ∧ SeqAt.shaped q = true ∧ PyData.eqv p q = c := fun e => by
    cases ea : pdF 8 mu dx with
    | none => rw [ea] at e; cases e
    | some p =>
      cases eb : pdF 8 mu dy with
      | none => rw [ea, eb] at e; cases e
      | some q =>
        rw [ea, eb] at e
        cases e
        obtain ⟨h1, h2, h3⟩ := pd_ok s r1 ea
        obtain ⟨g1, g2, g3⟩ := pd_ok s r2 eb
        exact ⟨p, q, h1, g1, shaped8 h2 h3, shaped8 g2 g3, rfl⟩
  cases dx <;> cases dy <;> first
    | exact .inr (other e)
    | (cases r1; cases r2; cases e; left; refine ⟨rfl, ?_⟩; first | rfl | (simp; done) | (simp [SX.S]; done))
theorem rs_eq : RS K cm (fun x y H Q => rEq x y H Q ∨ rEqD K x y H Q) gEq := fun H al mu x y dx dy d Q s r1 r2 e k => by
  have e : (gEqB dx dy mu).map DV.bl = some d := e
  cases ec : gEqB dx dy mu with
  | none => rw [ec] at e; cases e
  | some c =>
    rw [ec] at e
    cases e
    rcases eq_core s r1 r2 ec with ⟨h1, h2⟩ | ⟨p, q, h1, h2, h3, h4, h5⟩
    · exact .inl ⟨h1, by rw [h2]; exact k _ H s Lt.refl (.bl c)⟩
    · exact .inr ⟨p, q, h1, h2, h3, h4, by rw [h5]; exact k _ H s Lt.refl (.bl c)⟩
theorem rs_ne : RS K cm (fun x y H Q => rNe x y H Q ∨ rNeD K x y H Q) gNe := fun H al mu x y dx dy d Q s r1 r2 e k => by
  have e : (gEqB dx dy mu).map (fun b => DV.bl (!b)) = some d := e
  cases ec : gEqB dx dy mu with
  | none => rw [ec] at e; cases e
  | some c =>
    rw [ec] at e
    cases e
    rcases eq_core s r1 r2 ec with ⟨h1, h2⟩ | ⟨p, q, h1, h2, h3, h4, h5⟩
    · exact .inl ⟨h1, by rw [h2]; exact k _ H s Lt.refl (.bl _)⟩
    · exact .inr ⟨p, q, h1, h2, h3, h4, by rw [h5]; exact k _ H s Lt.refl (.bl _)⟩
theorem pd_eq {k : Nat} (hr : Room k X.A) (ha : PDE cm X W a fa) (hb : PDE cm X W b fb) (hm : behindInMarks .Eq b = false := by first | exact nobehind _ (by decide) (by decide) | rfl) : PDE cm X W (.Compare a [.Eq] [b] pos) (eOp gEq fa fb) := pd_cmp (OpR_or op_eq (op_eqD hr.units)) rs_eq ha hb hm
theorem pd_ne {k : Nat} (hr : Room k X.A) (ha : PDE cm X W a fa) (hb : PDE cm X W b fb) (hm : behindInMarks .NotEq b = false := by first | exact nobehind _ (by decide) (by decide) | rfl) : PDE cm X W (.Compare a [.NotEq] [b] pos) (eOp gNe fa fb) := pd_cmp (OpR_or op_ne (op_neD hr.units)) rs_ne ha hb hm
theorem pd_lt (ha : PDE cm X W a fa) (hb : PDE cm X W b fb) (hm : behindInMarks .Lt b = false := by first | exact nobehind _ (by decide) (by decide) | rfl) : PDE cm X W (.Compare a [.Lt] [b] pos) (eOp gLt0 fa fb) := pd_cmp op_lt (rs_I0 fun _ _ _ _ _ => .bl _) ha hb hm
theorem pd_le (ha : PDE cm X W a fa) (hb : PDE cm X W b fb) (hm : behindInMarks .LtE b = false := by first | exact nobehind _ (by decide) (by decide) | rfl) : PDE cm X W (.Compare a [.LtE] [b] pos) (eOp gLe fa fb) := pd_cmp op_le (rs_I0 fun _ _ _ _ _ => .bl _) ha hb hm
theorem pd_gt (ha : PDE cm X W a fa) (hb : PDE cm X W b fb) (hm : behindInMarks .Gt b = false := by first | exact nobehind _ (by decide) (by decide) | rfl) : PDE cm X W (.Compare a [.Gt] [b] pos) (eOp gGt fa fb) := pd_cmp op_gt (rs_I0 fun _ _ _ _ _ => .bl _) ha hb hm
theorem pd_ge (ha : PDE cm X W a fa) (hb : PDE cm X W b fb) (hm : behindInMarks .GtE b = false := by first | exact nobehind _ (by decide) (by decide) | rfl) : PDE cm X W (.Compare a [.GtE] [b] pos) (eOp gGe fa fb) := pd_cmp op_ge (rs_I0 fun _ _ _ _ _ => .bl _) ha hb hm
end
end DM
/-! expressions, further -/
namespace DM
open PySem PySem.Spec PyProof.Rows L2

/-! ### is None, in -/
def gIsN : G2 := fun x y _ => match y with
  | .non => (match x with | .non => some (.bl true) | _ => some (.bl false))
  | _ => none
def gNotN : G2 := fun x y _ => match y with
  | .non => (match x with | .non => some (.bl false) | _ => some (.bl true))
  | _ => none
def flatD : DV → Bool
  | .non => true | .bl _ => true | .int _ => true | .str _ => true | _ => false
def eqD0 : DV → DV → Bool
  | .non, .non => true
  | .bl a, .bl b => a == b
  | .bl a, .int j => (if a then 1 else 0) == j
  | .int i, .bl b => i == (if b then 1 else 0)
  | .int i, .int j => i == j
  | .str a, .str b => decide (a = b)
  | _, _ => false
def inD (x : DV) (ds : List DV) : Bool := ds.any fun y => eqD0 y x
/-- what may be searched by value: a list, a tuple of flat things; a text by one sign -/
def gInB (x y : DV) (mu : Mu) : Option Bool := match y with
  | .str z => match x with
    | .str [c] => some (decide (c ∈ z))
    | _ => none
  | .tup ds => if flatD x && ds.all flatD then some (inD x ds) else none
  | y => match lstOf mu y with
    | some ds => if flatD x && ds.all flatD then some (inD x ds) else none
    | none => none
def gIn : G2 := fun x y mu => (gInB x y mu).map .bl
def gNotIn : G2 := fun x y mu => (gInB x y mu).map fun b => .bl (!b)
section
variable {K : Frag'} {cm : Cm} {X : Cx} {W : WX} {pos : Pos} {a b c : Expr} {fa fb fc : DE} {H : Hp} {al : Al} {mu : Mu} {n : Nat}
theorem r_non {v : V} {d : DV} (r : R K H al n v d) : decide (v = V.non) = (match d with | .non => true | _ => false) := by
  cases r <;> simp
theorem rs_isN : RS K cm (fun x y H Q => y = .non ∧ Q (.bl (decide (x = .non))) H) gIsN := fun H al mu x y dx dy d Q s r1 r2 e k => by
  cases dy <;> try (cases e; done)
  cases r2
  refine ⟨rfl, ?_⟩
  rw [r_non r1]
  cases dx <;> cases e <;> exact k _ H s Lt.refl (.bl _)
theorem rs_notN : RS K cm (fun x y H Q => y = .non ∧ Q (.bl (!decide (x = .non))) H) gNotN := fun H al mu x y dx dy d Q s r1 r2 e k => by
  cases dy <;> try (cases e; done)
  cases r2
  refine ⟨rfl, ?_⟩
  rw [r_non r1]
  cases dx <;> cases e <;> exact k _ H s Lt.refl (.bl _)
theorem pd_isN (ha : PDE cm X W a fa) (hb : PDE cm X W b fb) (hm : behindInMarks .Is b = false := by first | exact nobehind _ (by decide) (by decide) | rfl) : PDE cm X W (.Compare a [.Is] [b] pos) (eOp gIsN fa fb) := pd_cmp op_isN rs_isN ha hb hm
theorem pd_notN (ha : PDE cm X W a fa) (hb : PDE cm X W b fb) (hm : behindInMarks .IsNot b = false := by first | exact nobehind _ (by decide) (by decide) | rfl) : PDE cm X W (.Compare a [.IsNot] [b] pos) (eOp gNotN fa fb) := pd_cmp op_notN rs_notN ha hb hm
theorem flat_of {v : V} {d : DV} (r : R K H al n v d) (h : flatD d = true) : flatV v = true := by
  cases r <;> first | rfl | (cases h; done)
theorem flats_of : ∀ {vs : List V} {ds : List DV}, RA K H al n vs ds → ds.all flatD = true → vs.all flatV = true
  | _, _, .nil, _ => rfl
  | _, _, .cons r q, h => by
    rw [List.all_cons, Bool.and_eq_true] at h
    rw [List.all_cons, flat_of r h.1, flats_of q h.2] <;> rfl
theorem eq0_of {v w : V} {d e : DV} (r : R K H al n v d) (q : R K H al n w e) (h1 : flatD d = true) (h2 : flatD e = true) : eqV v w = eqD0 d e := by
  cases r <;> first | (cases h1; done) | (cases q <;> first | (cases h2; done) | rfl | (simp [eqV, eqD0, SX.S_beq_eq]; done))
theorem inV_of {v : V} {d : DV} (r : R K H al n v d) (h : flatD d = true) : ∀ {vs : List V} {ds : List DV}, RA K H al n vs ds → ds.all flatD = true → inV v vs = inD d ds
  | _, _, .nil, _ => rfl
  | _, _, .cons q t, e => by
    rw [List.all_cons, Bool.and_eq_true] at e
    show (eqV _ v || inV v _) = (eqD0 _ d || inD d _)
    rw [eq0_of q r e.1 h, inV_of r h t e.2]
theorem in_core (s : SR K cm H al mu) {x y : V} {dx dy : DV} {c : Bool} (r1 : R K H al mu.length x dx) (r2 : R K H al mu.length y dy) (e : gInB dx dy mu = some c) :
    (∃ (k : Nat) (z : Str), x = .str ⟨#[k]⟩ ∧ y = .str z ∧ decide (k ∈ z.cps.toList) = c) ∨ ∃ p xs, y = .ref p ∧ (SqL K H p xs ∨ SqT K H p xs) ∧ flatV x = true ∧ xs.all flatV = true ∧ inV x xs = c := by
  have seq : ∀ {ds : List DV} {xs : List V}, (if (flatD dx && ds.all flatD) = true then some (inD dx ds) else none) = some c → RA K H al mu.length xs ds → flatV x = true ∧ xs.all flatV = true ∧ inV x xs = c := fun {ds xs} e ra => by
    by_cases h : (flatD dx && ds.all flatD) = true
    · rw [if_pos h] at e
      cases e
      rw [Bool.and_eq_true] at h
      exact ⟨flat_of r1 h.1, flats_of ra h.2, inV_of r1 h.1 ra h.2⟩
    · rw [if_neg h] at e
      cases e
  have other : (match lstOf mu dy with | some ds => if (flatD dx && ds.all flatD) = true then some (inD dx ds) else none | none => none) = some c → ∃ p xs, y = .ref p ∧ (SqL K H p xs ∨ SqT K H p xs) ∧ flatV x = true ∧ xs.all flatV = true ∧ inV x xs = c := fun e => by
    cases el : lstOf mu dy with
    | none => rw [el] at e; cases e
    | some ds =>
      rw [el] at e
      obtain ⟨p, xs, rfl, h1, h2⟩ := lst_of s r2 el
      obtain ⟨g1, g2, g3⟩ := seq e h2
      exact ⟨p, xs, rfl, .inl h1, g1, g2, g3⟩
  cases dy with
  | str z =>
    cases r2
    left
    cases dx <;> try (cases e; done)
    rename_i l
    match l, r1, e with
    | [k], r1, e =>
      cases r1
      cases e
      exact ⟨k, _, rfl, rfl, rfl⟩
  | tup ds =>
    cases r2 with
    | tup hl ra =>
      obtain ⟨g1, g2, g3⟩ := seq e ra
      exact .inr ⟨_, _, rfl, .inr hl.sq, g1, g2, g3⟩
  | _ => exact .inr (other e)
theorem rs_in : RS K cm (fun x y H Q => (∃ (k : Nat) (z : Str), x = .str ⟨#[k]⟩ ∧ y = .str z ∧ Q (.bl (decide (k ∈ z.cps.toList))) H) ∨ rIn K false x y H Q) gIn := fun H al mu x y dx dy d Q s r1 r2 e k => by
  have e : (gInB dx dy mu).map DV.bl = some d := e
  cases ec : gInB dx dy mu with
  | none => rw [ec] at e; cases e
  | some c =>
    rw [ec] at e
    cases e
    rcases in_core s r1 r2 ec with ⟨q, z, h1, h2, h3⟩ | ⟨p, xs, h1, h2, h3, h4, h5⟩
    · exact .inl ⟨q, z, h1, h2, by rw [h3]; exact k _ H s Lt.refl (.bl c)⟩
    · exact .inr ⟨p, xs, h1, h2, h3, h4, by rw [h5]; exact k _ H s Lt.refl (.bl c)⟩
theorem rs_notIn : RS K cm (fun x y H Q => (∃ (k : Nat) (z : Str), x = .str ⟨#[k]⟩ ∧ y = .str z ∧ Q (.bl (!decide (k ∈ z.cps.toList))) H) ∨ rIn K true x y H Q) gNotIn := fun H al mu x y dx dy d Q s r1 r2 e k => by
  have e : (gInB dx dy mu).map (fun b => DV.bl (!b)) = some d := e
  cases ec : gInB dx dy mu with
  | none => rw [ec] at e; cases e
  | some c =>
    rw [ec] at e
    cases e
    rcases in_core s r1 r2 ec with ⟨q, z, h1, h2, h3⟩ | ⟨p, xs, h1, h2, h3, h4, h5⟩
    · exact .inl ⟨q, z, h1, h2, by rw [h3]; exact k _ H s Lt.refl (.bl _)⟩
    · exact .inr ⟨p, xs, h1, h2, h3, h4, by
        show Q (.bl (!inV x xs)) H
        rw [h5]; exact k _ H s Lt.refl (.bl _)⟩
theorem pd_in (ha : PDE cm X W a fa) (hb : PDE cm X W b fb) (hm : behindInMarks .In b = false := by rfl) : PDE cm X W (.Compare a [.In] [b] pos) (eOp gIn fa fb) := pd_cmp (OpR_or op_in_sign op_in_seq) rs_in ha hb hm
theorem pd_notIn (ha : PDE cm X W a fa) (hb : PDE cm X W b fb) (hm : behindInMarks .NotIn b = false := by rfl) : PDE cm X W (.Compare a [.NotIn] [b] pos) (eOp gNotIn fa fb) := pd_cmp (OpR_or op_notIn_sign op_notIn_seq) rs_notIn ha hb hm

/-! ### subscripts of sequences -/
def gIx : G2
  | .str z, .int i, _ => if z.length ≤ 1000000 then (atI z i).map fun c => .str [c] else none
  | .tup ds, .int i, _ => atI ds i
  | x, .int i, mu => match lstOf mu x with
    | some ds => atI ds i
    | none => none
  | _, _, _ => none
theorem atI_RA {vs : List V} {ds : List DV} (ra : RA K H al n vs ds) {i : Int} {d : DV} (h : atI ds i = some d) : ∃ v, atI vs i = some v ∧ R K H al n v d := by
  unfold atI at h ⊢
  rw [ra.len]
  cases e : ixN ds.length i with
  | none => rw [e] at h; cases h
  | some j =>
    rw [e] at h
    exact ra.get h
theorem rs_ix : RS K cm (rIx K) gIx := fun H al mu x y dx dy d Q s r1 r2 e k => by
  cases dy <;> try (cases dx <;> cases e; done)
  rename_i i
  cases r2
  have other : (match lstOf mu dx with | some ds => atI ds i | none => none) = some d → rIxL K x (.int i) H Q := fun e => by
    cases el : lstOf mu dx with
    | none => rw [el] at e; cases e
    | some ds =>
      rw [el] at e
      obtain ⟨p, xs, rfl, h1, h2⟩ := lst_of s r1 el
      obtain ⟨v, h3, h4⟩ := atI_RA h2 e
      exact ⟨p, xs, i, v, rfl, rfl, h1, h3, k _ H s Lt.refl h4⟩
  cases dx with
  | str z =>
    cases r1
    have e : (if z.length ≤ 1000000 then (atI z i).map fun c => DV.str [c] else none) = some d := e
    by_cases c : z.length ≤ 1000000
    · rw [if_pos c] at e
      cases ea : atI z i with
      | none => rw [ea] at e; cases e
      | some c' =>
        rw [ea] at e
        cases e
        exact .inr (.inr ⟨Sx z, i, c', rfl, rfl, line_big (by rw [SX.S_len]; exact c), ea, k _ H s Lt.refl (.str [c'])⟩)
    · rw [if_neg c] at e
      cases e
  | tup ds =>
    cases r1 with
    | tup hl ra =>
      obtain ⟨v, h3, h4⟩ := atI_RA ra e
      exact .inr (.inl ⟨_, _, i, v, rfl, rfl, hl.sq, h3, k _ H s Lt.refl h4⟩)
  | _ => exact .inl (other e)
theorem pd_ix (ha : PDE cm X W a fa) (hb : PDE cm X W b fb) (hs : PlainIx b := by intro _ _; rfl) : PDE cm X W (.Subscript a b pos) (eOp gIx fa fb) := by
  obtain ⟨ta, pa, sa⟩ := ha.ex
  obtain ⟨tb, pb, sb⟩ := hb.ex
  exact ⟨_, pe_ix ix_seq pa pb hs, snd_op rs_ix sa sb⟩
end

/-! ### argument lists, displays -/
inductive AOut where
  | ok (ds : List DV) (m : Mu) | exc (e : Ex) (m : Mu) | bad
def evA : List DE → Dl → Mu → AOut
  | [], _, mu => .ok [] mu
  | f :: fs, dl, mu => match f dl mu with
    | .ok d m1 => (match evA fs dl m1 with
      | .ok ds m2 => .ok (d :: ds) m2
      | .exc e m2 => .exc e m2
      | .bad => .bad)
    | .exc e m1 => .exc e m1
    | .bad => .bad
def AOut.out (a : AOut) (k : List DV → Mu → Out) : Out := match a with
  | .ok ds m => k ds m
  | .exc e m => .exc e m
  | .bad => .bad
def eArgs (fs : List DE) (dl : Dl) (mu : Mu) (k : List DV → Mu → Out) : Out := (evA fs dl mu).out k
def AOk (K : Frag') (cm : Cm) (H : Hp) (al : Al) (n : Nat) (o : AOut) (R1 : List V → Hp → Prop) (E : XK) : Prop := match o with
  | .ok ds mu => ∀ vs H' al', SR K cm H' al' mu → Lt H al n H' al' mu.length → RA K H' al' mu.length vs ds → R1 vs H'
  | .exc e mu => ∀ dd H' al', SR K cm H' al' mu → Lt H al n H' al' mu.length → XR K H' al' mu.length dd e.fs → E (xcl cm e.cls) dd H'
  | .bad => False
def SndA (K : Frag') (cm : Cm) (W : WX) (t : TA) (fs : List DE) : Prop := ∀ (sg : L2.St) (H : Hp) (al : Al) (dl : Dl) (mu : Mu), SR K cm H al mu → SlD K H al mu.length sg dl → ∀ R1 : List V → Hp → Prop,
  AOk K cm H al mu.length (evA fs dl mu) R1 (fun c d H' => W c d sg H') → t sg H R1
theorem args_bind {K : Frag'} {cm : Cm} {W : WX} {t : TA} {fs : List DE} (hA : SndA K cm W t fs) (sg : L2.St) (H : Hp) (al : Al) (dl : Dl) (mu : Mu) (R1 : List V → Hp → Prop) (Q : VK) (E : XK) (k : List DV → Mu → Out) (s : SR K cm H al mu) (sl : SlD K H al mu.length sg dl) (hE : E = (fun c d H' => W c d sg H'))
    (h : OOk K cm H al mu.length (eArgs fs dl mu k) Q E)
    (kont : ∀ ds m1 vs H1 al1, SR K cm H1 al1 m1 → Lt H al mu.length H1 al1 m1.length → SlD K H1 al1 m1.length sg dl → RA K H1 al1 m1.length vs ds → OOk K cm H1 al1 m1.length (k ds m1) Q E → R1 vs H1) : t sg H R1 := by
  refine hA sg H al dl mu s sl R1 ?_
  have h : OOk K cm H al mu.length ((evA fs dl mu).out k) Q E := h
  cases e : evA fs dl mu with
  | ok ds m1 =>
    rw [e] at h
    exact fun vs H1 al1 s1 t1 r1 => kont ds m1 vs H1 al1 s1 t1 (sl.mono t1) r1 (OOk.later t1 h)
  | exc x m1 =>
    rw [e] at h
    subst hE
    exact h
  | bad => rw [e] at h; exact h
theorem AOk.later {K : Frag'} {cm : Cm} {H H' : Hp} {al al' : Al} {n n' : Nat} {o : AOut} {Q : List V → Hp → Prop} {E : XK} (t : Lt H al n H' al' n') (h : AOk K cm H al n o Q E) : AOk K cm H' al' n' o Q E := by
  cases o with
  | ok d mu => exact fun v H2 al2 s u r => h v H2 al2 s (t.trans u) r
  | exc e mu => exact fun v H2 al2 s u r => h v H2 al2 s (t.trans u) r
  | bad => exact h
structure PDA (cm : Cm) (X : Cx) (W : WX) (es : List Expr) (fs : List DE) : Prop where
  ex : ∃ t, PA X es t ∧ SndA X.K cm W t fs
def eTup (fs : List DE) : DE := fun dl mu => eArgs fs dl mu fun ds m => if ds.length ≤ 1000000 then .ok (.tup ds) m else .bad
def eLst (fs : List DE) : DE := fun dl mu => eArgs fs dl mu fun ds m => if ds.length ≤ 1000000 then .ok (.lst ds) m else .bad
/-- a list that will change -/
def eLstM (fs : List DE) : DE := fun dl mu => eArgs fs dl mu fun ds m => if ds.length ≤ 1000000 then .ok (.obj m.length) (m ++ [.lst ds]) else .bad
section
variable {K : Frag'} {cm : Cm} {X : Cx} {W : WX} {pos : Pos} {e : Expr} {es : List Expr} {f : DE} {fs : List DE} {te : TE} {t : TA}
theorem snd_nil : SndA K cm W tNil [] := fun sg H al dl mu s sl R1 h => h [] H al s Lt.refl .nil
theorem snd_cons (ha : SndE K cm W te f) (hr : SndA K cm W t fs) : SndA K cm W (tCons te t) (f :: fs) := fun sg H al dl mu s sl R1 h => by
  refine ha sg H al dl mu s sl _ ?_
  have h : AOk K cm H al mu.length (match f dl mu with | .ok d m1 => (match evA fs dl m1 with | .ok ds m2 => .ok (d :: ds) m2 | .exc e m2 => .exc e m2 | .bad => .bad) | .exc e m1 => .exc e m1 | .bad => .bad) R1 _ := h
  cases e : f dl mu with
  | bad => rw [e] at h; exact h
  | exc x m1 => rw [e] at h; exact h
  | ok d m1 =>
    rw [e] at h
    refine fun v H1 al1 s1 t1 r1 => hr sg H1 al1 dl m1 s1 (sl.mono t1) _ ?_
    have h : AOk K cm H al mu.length (match evA fs dl m1 with | .ok ds m2 => .ok (d :: ds) m2 | .exc e m2 => .exc e m2 | .bad => .bad) R1 _ := h
    cases e2 : evA fs dl m1 with
    | bad => rw [e2] at h; exact h
    | exc x m2 => rw [e2] at h; exact AOk.later t1 (o := .exc x m2) h
    | ok ds m2 =>
      rw [e2] at h
      exact fun vs H2 al2 s2 t2 r2 => h (v :: vs) H2 al2 s2 (t1.trans t2) (.cons (r1.mono t2) r2)
theorem pda_nil : PDA cm X W [] [] := ⟨_, pa_nil, snd_nil⟩
theorem pda_cons (ha : PDE cm X W e f) (hr : PDA cm X W es fs) (hs : starEach (e :: es) X.env = (false, eval e X.env) :: starEach es X.env := by rfl) : PDA cm X W (e :: es) (f :: fs) := by
  obtain ⟨ta, pa, sa⟩ := ha.ex
  obtain ⟨tb, pb, sb⟩ := hr.ex
  exact ⟨_, pa_cons pa pb hs, snd_cons sa sb⟩
theorem snd_tup (h : SndA K cm W t fs) : SndE K cm W (tTup t) (eTup fs) := fun sg H al dl mu s sl Q q => by
  refine args_bind h sg H al dl mu _ Q _ _ s sl rfl q fun ds m1 vs H1 al1 s1 t1 sl1 r1 h1 => ?_
  have h1 : OOk K cm H1 al1 m1.length (if ds.length ≤ 1000000 then Out.ok (DV.tup ds) m1 else .bad) Q _ := h1
  by_cases c : ds.length ≤ 1000000
  · rw [if_pos c] at h1
    refine ⟨line_big (by rw [r1.len]; exact c), fun p hp => ?_⟩
    have tt : Lt H1 al1 m1.length (upd H1 p (.tup vs)) al1 m1.length := Lt.new (mu := m1) hp
    exact h1 _ _ al1 (s1.new hp) tt (.tup (.inl ⟨.inl upd_same, s1.sep hp, s1.nf hp⟩) (r1.mono tt))
  · rw [if_neg c] at h1
    exact h1.elim
theorem snd_lst (h : SndA K cm W t fs) : SndE K cm W (tLst t) (eLst fs) := fun sg H al dl mu s sl Q q => by
  refine args_bind h sg H al dl mu _ Q _ _ s sl rfl q fun ds m1 vs H1 al1 s1 t1 sl1 r1 h1 => ?_
  have h1 : OOk K cm H1 al1 m1.length (if ds.length ≤ 1000000 then Out.ok (DV.lst ds) m1 else .bad) Q _ := h1
  by_cases c : ds.length ≤ 1000000
  · rw [if_pos c] at h1
    refine ⟨line_big (by rw [r1.len]; exact c), fun p hp => ?_⟩
    have tt : Lt H1 al1 m1.length (upd H1 p (.lst vs)) al1 m1.length := Lt.new (mu := m1) hp
    exact h1 _ _ al1 (s1.new hp) tt (.lst (.inl ⟨.inl upd_same, s1.sep hp, s1.nf hp⟩) (r1.mono tt))
  · rw [if_neg c] at h1
    exact h1.elim
theorem keep_new {H : Hp} {p : Addr} {o : HO} (hp : H p = none) : ∀ a u, H a = some u → upd H p o a = some u := fun a u h => by rw [upd_ne (ne_of_none h hp)]; exact h
/-- a new list that will change, as a result -/
theorem new_lstM {H : Hp} {al : Al} {mu : Mu} {p : Addr} {vs : List V} {ds : List DV} (s : SR K cm H al mu) (hp : H p = none) (ra : RA K H al mu.length vs ds) :
    SR K cm (upd H p (.lst vs)) (ext al mu.length p) (mu ++ [.lst ds]) ∧ Lt H al mu.length (upd H p (.lst vs)) (ext al mu.length p) (mu ++ [MO.lst ds]).length ∧ R K (upd H p (.lst vs)) (ext al mu.length p) (mu ++ [MO.lst ds]).length (.ref p) (.obj mu.length) := by
  have t : Lt H al mu.length (upd H p (.lst vs)) (ext al mu.length p) (mu.length + 1) := Lt.newM (keep_new hp) hp
  have s' := s.newM (m := .lst ds) (keep_new hp) hp ⟨vs, upd_same, ra.mono t⟩
  have e : (mu ++ [MO.lst ds]).length = mu.length + 1 := by rw [List.length_append, List.length_singleton]
  rw [e]
  refine ⟨s', t, ?_⟩
  have z : R K (upd H p (.lst vs)) (ext al mu.length p) (mu.length + 1) (.ref (ext al mu.length p mu.length)) (.obj mu.length) := .obj (Nat.lt_succ_self _)
  rw [ext_same] at z
  exact z
theorem snd_lstM (h : SndA K cm W t fs) : SndE K cm W (tLst t) (eLstM fs) := fun sg H al dl mu s sl Q q => by
  refine args_bind h sg H al dl mu _ Q _ _ s sl rfl q fun ds m1 vs H1 al1 s1 t1 sl1 r1 h1 => ?_
  have h1 : OOk K cm H1 al1 m1.length (if ds.length ≤ 1000000 then Out.ok (DV.obj m1.length) (m1 ++ [.lst ds]) else .bad) Q _ := h1
  by_cases c : ds.length ≤ 1000000
  · rw [if_pos c] at h1
    refine ⟨line_big (by rw [r1.len]; exact c), fun p hp => ?_⟩
    obtain ⟨g1, g2, g3⟩ := new_lstM s1 hp r1
    exact h1 _ _ _ g1 g2 g3
  · rw [if_neg c] at h1
    exact h1.elim
theorem pd_tup {x1} (h : PDA cm X W es fs) : PDE cm X W (.Tuple es x1 pos) (eTup fs) := let ⟨_, p, s⟩ := h.ex; ⟨_, pe_tup p, snd_tup s⟩
theorem pd_lst (h : PDA cm X W es fs) : PDE cm X W (.List es pos) (eLst fs) := let ⟨_, p, s⟩ := h.ex; ⟨_, pe_lst p, snd_lst s⟩
theorem pd_lstM (h : PDA cm X W es fs) : PDE cm X W (.List es pos) (eLstM fs) := let ⟨_, p, s⟩ := h.ex; ⟨_, pe_lst p, snd_lstM s⟩
end

/-! ### tests -/
def SndT (K : Frag') (cm : Cm) (W : WX) (t : TT) (f : DE) : Prop := ∀ (sg : L2.St) (H : Hp) (al : Al) (dl : Dl) (mu : Mu), SR K cm H al mu → SlD K H al mu.length sg dl → ∀ R1 : Bool → Hp → Prop,
  OOk K cm H al mu.length (f dl mu) (fun v H' => ∃ b, v = .bl b ∧ R1 b H') (fun c d H' => W c d sg H') → t sg H R1
structure PDT (cm : Cm) (X : Cx) (W : WX) (e : Expr) (f : DE) : Prop where
  ex : ∃ t, PT X e t ∧ SndT X.K cm W t f
structure PDW (cm : Cm) (X : Cx) (W : WX) (e : Expr) (f : DE) : Prop where
  ex : ∃ t, PW X e t ∧ SndT X.K cm W t f
def isB : DV → Mu → Out
  | .bl b, mu => .ok (.bl b) mu
  | _, _ => .bad
def eB (f : DE) : DE := fun dl mu => (f dl mu).bind isB
def eAnd (f g : DE) : DE := fun dl mu => (f dl mu).bind fun d m => match d with
  | .bl true => g dl m
  | .bl false => .ok (.bl false) m
  | _ => .bad
def eOr (f g : DE) : DE := fun dl mu => (f dl mu).bind fun d m => match d with
  | .bl true => .ok (.bl true) m
  | .bl false => g dl m
  | _ => .bad
def eNot (f : DE) : DE := fun dl mu => (f dl mu).bind fun d m => match d with
  | .bl b => .ok (.bl (!b)) m
  | _ => .bad
def eIf (c f g : DE) : DE := fun dl mu => (c dl mu).bind fun d m => match d with
  | .bl true => f dl m
  | .bl false => g dl m
  | _ => .bad
def truth (mu : Mu) : DV → Option Bool
  | .non => some false
  | .bl b => some b
  | .int i => some (i != 0)
  | .str l => if l.length ≤ 1000000 then some (!l.isEmpty) else none
  | .lst ds => some (!ds.isEmpty)
  | .tup ds => some (!ds.isEmpty)
  | .obj k => match mu[k]? with
    | some (.lst ds) => some (!ds.isEmpty)
    | some (.dic kvs) => some (!kvs.isEmpty)
    | _ => none
  | .ty _ => none
def eTru (f : DE) : DE := fun dl mu => (f dl mu).bind fun d m => match truth m d with
  | some b => .ok (.bl b) m
  | none => .bad
section
variable {K : Frag'} {cm : Cm} {X : Cx} {W : WX} {pos : Pos} {a b c : Expr} {rest : List Expr} {fa fb fc : DE} {ta tb tc : TE} {tA tB' : TT} {H : Hp} {al : Al} {mu : Mu} {n : Nat}
theorem snd_test (h : SndE K cm W ta fa) : SndT K cm W (tB ta) (eB fa) := fun sg H al dl mu s sl R1 q => by
  refine snd_bind (R1 := fun x H1 => ∃ c, x = .bl c ∧ R1 c H1) h s sl rfl q fun d m1 v H1 al1 s1 t1 sl1 r1 h1 => ?_
  cases d <;> try exact h1.elim
  cases r1
  exact h1 _ H1 al1 s1 Lt.refl (.bl _)
theorem bind_T {W : WX} {t : TT} {f : DE} {R1 R2 : Bool → Hp → Prop} {k : DV → Mu → Out} {sg : L2.St} {dl : Dl} {Q : VK} {E : XK} (hA : SndT K cm W t f) (s : SR K cm H al mu) (sl : SlD K H al mu.length sg dl) (hE : E = fun c d H' => W c d sg H')
    (h : OOk K cm H al mu.length ((f dl mu).bind k) Q E)
    (kont : ∀ b mu1 H1 al1, SR K cm H1 al1 mu1 → Lt H al mu.length H1 al1 mu1.length → SlD K H1 al1 mu1.length sg dl → OOk K cm H1 al1 mu1.length (k (.bl b) mu1) Q E → R1 b H1)
    (hb : ∀ d m, (∀ b, d ≠ .bl b) → k d m = .bad) : t sg H R1 := by
  refine hA sg H al dl mu s sl R1 ?_
  cases e : f dl mu with
  | ok d mu1 =>
    rw [e] at h
    have h : OOk K cm H al mu.length (k d mu1) Q E := h
    cases d with
    | bl b =>
      refine fun v H1 al1 s1 t1 r1 => ?_
      cases r1
      exact ⟨b, rfl, kont b mu1 H1 al1 s1 t1 (sl.mono t1) (OOk.later t1 h)⟩
    | _ =>
      rw [hb _ _ (by intro b z; cases z)] at h
      exact h.elim
  | exc x mu1 =>
    rw [e] at h
    subst hE
    exact h
  | bad =>
    rw [e] at h
    exact h
theorem snd_andT (h1 : SndT K cm W tA fa) (h2 : SndT K cm W tB' fb) : SndT K cm W (tAnd tA tB') (eAnd fa fb) := fun sg H al dl mu s sl R1 q => by
  refine bind_T (R1 := fun c H1 => if c = true then tB' sg H1 R1 else R1 false H1) (R2 := R1) h1 s sl rfl q (fun b m1 H1 al1 s1 t1 sl1 g1 => ?_) (fun d m hd => ?_)
  · cases b with
    | true => rw [if_pos rfl]; exact h2 sg H1 al1 dl m1 s1 sl1 R1 g1
    | false =>
      rw [if_neg Bool.false_ne_true]
      obtain ⟨b, e, z⟩ := g1 _ H1 al1 s1 Lt.refl (.bl _)
      cases e
      exact z
  · cases d <;> first | rfl | exact absurd rfl (hd _)
theorem snd_orT (h1 : SndT K cm W tA fa) (h2 : SndT K cm W tB' fb) : SndT K cm W (tOr tA tB') (eOr fa fb) := fun sg H al dl mu s sl R1 q => by
  refine bind_T (R1 := fun c H1 => if c = true then R1 true H1 else tB' sg H1 R1) (R2 := R1) h1 s sl rfl q (fun b m1 H1 al1 s1 t1 sl1 g1 => ?_) (fun d m hd => ?_)
  · cases b with
    | false => rw [if_neg Bool.false_ne_true]; exact h2 sg H1 al1 dl m1 s1 sl1 R1 g1
    | true =>
      rw [if_pos rfl]
      obtain ⟨b, e, z⟩ := g1 _ H1 al1 s1 Lt.refl (.bl _)
      cases e
      exact z
  · cases d <;> first | rfl | exact absurd rfl (hd _)
theorem snd_notT (h1 : SndT K cm W tA fa) : SndT K cm W (tNot tA) (eNot fa) := fun sg H al dl mu s sl R1 q => by
  refine bind_T (R1 := fun c H1 => R1 (!c) H1) (R2 := R1) h1 s sl rfl q (fun b m1 H1 al1 s1 t1 sl1 g1 => ?_) (fun d m hd => ?_)
  · obtain ⟨b', e, z⟩ := g1 _ H1 al1 s1 Lt.refl (.bl _)
    cases e
    exact z
  · cases d <;> first | rfl | exact absurd rfl (hd _)
theorem snd_ifE (h1 : SndT K cm W tA fc) (h2 : SndE K cm W ta fa) (h3 : SndE K cm W tb fb) : SndE K cm W (tIf tA ta tb) (eIf fc fa fb) := fun sg H al dl mu s sl Q q => by
  refine bind_T (R1 := fun c H1 => if c = true then ta sg H1 Q else tb sg H1 Q) (R2 := fun _ _ => True) h1 s sl rfl q (fun b m1 H1 al1 s1 t1 sl1 g1 => ?_) (fun d m hd => ?_)
  · cases b with
    | true => rw [if_pos rfl]; exact h2 sg H1 al1 dl m1 s1 sl1 Q g1
    | false => rw [if_neg Bool.false_ne_true]; exact h3 sg H1 al1 dl m1 s1 sl1 Q g1
  · cases d <;> first | rfl | exact absurd rfl (hd _)
/-- the truth of any value -/
theorem tru_of {v : V} {d : DV} {b : Bool} (s : SR K cm H al mu) (r : R K H al mu.length v d) (h : truth mu d = some b) : TruV K v H b := by
  cases d with
  | non => cases r; cases h; exact rfl
  | bl b => cases r; cases h; exact rfl
  | int i => cases r; cases h; exact rfl
  | ty s => cases h
  | str l =>
    cases r
    have h : (if l.length ≤ 1000000 then some (!l.isEmpty) else none) = some b := h
    by_cases c : l.length ≤ 1000000
    · rw [if_pos c] at h
      cases h
      refine ⟨line_big (by rw [SX.S_len]; exact c), ?_⟩
      rw [SX.S_len]
      cases l with
      | nil => rfl
      | cons x l => simp only [List.isEmpty_cons, List.length_cons]; symm; simp; omega
    · rw [if_neg c] at h
      cases h
  | lst ds =>
    cases r with
    | lst hl ra =>
      cases h
      exact .inl ⟨_, hl.sq, by cases ra <;> rfl⟩
  | tup ds =>
    cases r with
    | tup hl ra =>
      cases h
      exact .inr (.inl ⟨_, hl.sq, by cases ra <;> rfl⟩)
  | obj k =>
    cases r with
    | obj hk =>
      have h : (match mu[k]? with | some (.lst ds) => some (!ds.isEmpty) | some (.dic kvs) => some (!kvs.isEmpty) | _ => none) = some b := h
      cases em : mu[k]? with
      | none => rw [em] at h; cases h
      | some m =>
        rw [em] at h
        have z := s.ob k m em
        cases m with
        | lst ds => cases h; obtain ⟨xs, h1, h2⟩ := z; exact .inl ⟨xs, SqL.of h1, by cases h2 <;> rfl⟩
        | dic ds => cases h; obtain ⟨xs, h1, h2⟩ := z; exact .inr (.inr ⟨xs, h1, by cases h2 <;> rfl⟩)
        | ins _ _ => cases h
theorem snd_tru (h : SndE K cm W ta fa) : SndT K cm W (fun σ H Q => ta σ H fun x H' => ∃ k, TruV K x H' k ∧ Q k H') (eTru fa) := fun sg H al dl mu s sl R1 q => by
  refine snd_bind (R1 := fun x H' => ∃ k, TruV K x H' k ∧ R1 k H') h s sl rfl q fun d m1 v H1 al1 s1 t1 sl1 r1 h1 => ?_
  cases e : truth m1 d with
  | none => rw [e] at h1; exact h1.elim
  | some b =>
    rw [e] at h1
    obtain ⟨b', z1, z2⟩ := h1 _ H1 al1 s1 Lt.refl (.bl _)
    cases z1
    exact ⟨b, tru_of s1 r1 e, z2⟩
theorem pdt_val (h : PDE cm X W a fa) (he : ∀ whole, isTrue a X.env whole = (do let v ← whole; standAt a.pos; holding [v] (truthy v)) := by intro _; rfl) : PDT cm X W a (eB fa) := let ⟨_, p, s⟩ := h.ex; ⟨_, pt_val p he, snd_test s⟩
theorem pdt_tru (h : PDE cm X W a fa) (he : ∀ whole, isTrue a X.env whole = (do let v ← whole; standAt a.pos; holding [v] (truthy v)) := by intro _; rfl) : PDT cm X W a (eTru fa) := let ⟨_, p, s⟩ := h.ex; ⟨_, pt_truth p he, snd_tru s⟩
theorem pdt_cmp {op : CmpOp} {r : R2} {g : G2} (ho : OpR X (compareOp op) r) (hr : RS X.K cm r g) (ha : PDE cm X W a fa) (hb : PDE cm X W b fb) (hm : behindInMarks op b = false) : PDT cm X W (.Compare a [op] [b] pos) (eB (eOp g fa fb)) := by
  obtain ⟨ta, pa, sa⟩ := ha.ex
  obtain ⟨tb, pb, sb⟩ := hb.ex
  exact ⟨_, pt_cmpR ho pa pb hm, snd_test (snd_op hr sa sb)⟩
theorem pdt_and (h1 : PDT cm X W a fa) (h2 : PDW cm X W (.BoolOp .And (b :: rest) pos) fb) : PDW cm X W (.BoolOp .And (a :: b :: rest) pos) (eAnd fa fb) := let ⟨_, p, s⟩ := h1.ex; let ⟨_, q, u⟩ := h2.ex; ⟨_, pw_and p q, snd_andT s u⟩
theorem pdt_or (h1 : PDT cm X W a fa) (h2 : PDW cm X W (.BoolOp .Or (b :: rest) pos) fb) : PDW cm X W (.BoolOp .Or (a :: b :: rest) pos) (eOr fa fb) := let ⟨_, p, s⟩ := h1.ex; let ⟨_, q, u⟩ := h2.ex; ⟨_, pw_or p q, snd_orT s u⟩
theorem pdt_and1 (h1 : PDT cm X W a fa) : PDW cm X W (.BoolOp .And [a] pos) fa := let ⟨_, p, s⟩ := h1.ex; ⟨_, pw_and1 p, s⟩
theorem pdt_or1 (h1 : PDT cm X W a fa) : PDW cm X W (.BoolOp .Or [a] pos) fa := let ⟨_, p, s⟩ := h1.ex; ⟨_, pw_or1 p, s⟩
theorem PDW.t (h : PDW cm X W a fa) : PDT cm X W a fa := let ⟨_, p, s⟩ := h.ex; ⟨_, p.pt, s⟩
theorem pdt_not (h1 : PDT cm X W a fa) : PDT cm X W (.UnaryOp .Not a pos) (eNot fa) := let ⟨_, p, s⟩ := h1.ex; ⟨_, pt_not p, snd_notT s⟩
theorem pd_if (h1 : PDT cm X W c fc) (h2 : PDE cm X W a fa) (h3 : PDE cm X W b fb) : PDE cm X W (.IfExp c a b pos) (eIf fc fa fb) := let ⟨_, p, s⟩ := h1.ex; let ⟨_, q, u⟩ := h2.ex; let ⟨_, q', u'⟩ := h3.ex; ⟨_, pe_ifExp p q q', snd_ifE s u u'⟩
/-! and, or, not as values: of truths -/
theorem snd_andV (h1 : SndE K cm W ta fa) (h2 : SndE K cm W tb fb) : SndE K cm W (tAndV ta tb) (eAnd fa fb) := fun sg H al dl mu s sl Q q => by
  refine snd_bind (R1 := fun x H1 => ∃ c, x = .bl c ∧ if c = true then tb sg H1 Q else Q (.bl false) H1) h1 s sl rfl q fun d m1 v H1 al1 s1 t1 sl1 r1 g1 => ?_
  cases d <;> try exact g1.elim
  rename_i b
  cases r1
  refine ⟨b, rfl, ?_⟩
  cases b with
  | true => rw [if_pos rfl]; exact h2 sg H1 al1 dl m1 s1 sl1 Q g1
  | false => rw [if_neg Bool.false_ne_true]; exact g1 _ H1 al1 s1 Lt.refl (.bl _)
theorem snd_orV (h1 : SndE K cm W ta fa) (h2 : SndE K cm W tb fb) : SndE K cm W (tOrV ta tb) (eOr fa fb) := fun sg H al dl mu s sl Q q => by
  refine snd_bind (R1 := fun x H1 => ∃ c, x = .bl c ∧ if c = true then Q (.bl true) H1 else tb sg H1 Q) h1 s sl rfl q fun d m1 v H1 al1 s1 t1 sl1 r1 g1 => ?_
  cases d <;> try exact g1.elim
  rename_i b
  cases r1
  refine ⟨b, rfl, ?_⟩
  cases b with
  | false => rw [if_neg Bool.false_ne_true]; exact h2 sg H1 al1 dl m1 s1 sl1 Q g1
  | true => rw [if_pos rfl]; exact g1 _ H1 al1 s1 Lt.refl (.bl _)
theorem snd_notV (h1 : SndE K cm W ta fa) : SndE K cm W (tNotV ta) (eNot fa) := fun sg H al dl mu s sl Q q => by
  refine snd_bind (R1 := fun x H1 => ∃ c, x = .bl c ∧ Q (.bl (!c)) H1) h1 s sl rfl q fun d m1 v H1 al1 s1 t1 sl1 r1 g1 => ?_
  cases d <;> try exact g1.elim
  rename_i b
  cases r1
  exact ⟨b, rfl, g1 _ H1 al1 s1 Lt.refl (.bl _)⟩
theorem pd_and (h1 : PDE cm X W a fa) (h2 : PDE cm X W (.BoolOp .And (b :: rest) pos) fb) : PDE cm X W (.BoolOp .And (a :: b :: rest) pos) (eAnd fa fb) := let ⟨_, p, s⟩ := h1.ex; let ⟨_, q, u⟩ := h2.ex; ⟨_, pe_and p q, snd_andV s u⟩
theorem pd_or (h1 : PDE cm X W a fa) (h2 : PDE cm X W (.BoolOp .Or (b :: rest) pos) fb) : PDE cm X W (.BoolOp .Or (a :: b :: rest) pos) (eOr fa fb) := let ⟨_, p, s⟩ := h1.ex; let ⟨_, q, u⟩ := h2.ex; ⟨_, pe_or p q, snd_orV s u⟩
theorem pd_one {op} (h1 : PDE cm X W a fa) : PDE cm X W (.BoolOp op [a] pos) fa := let ⟨_, p, s⟩ := h1.ex; ⟨_, pe_one p, s⟩
theorem pd_not (h1 : PDE cm X W a fa) : PDE cm X W (.UnaryOp .Not a pos) (eNot fa) := let ⟨_, p, s⟩ := h1.ex; ⟨_, pe_not p, snd_notV s⟩
end
end DM
/-! statements, loops, comprehensions, calls -/
namespace DM
open PySem PySem.Spec PyProof.Rows L2

def SndS (K : Frag') (cm : Cm) (W : WX) (t : TS) (f : DS) : Prop := ∀ (sg : L2.St) (H : Hp) (al : Al) (dl : Dl) (mu : Mu), SR K cm H al mu → SlD K H al mu.length sg dl → ∀ D : Ends, SOk K cm H al mu.length (f dl mu) D W → t D sg H
structure PDS (cm : Cm) (X : Cx) (W : WX) (st : Stmt) (f : DS) : Prop where
  ex : ∃ t, PS X st t ∧ SndS X.K cm W t f
structure PDB (cm : Cm) (X : Cx) (W : WX) (st : List Stmt) (f : DS) : Prop where
  ex : ∃ t, PSs X st t ∧ SndS X.K cm W t f
def sNext : DS := fun dl mu => .nx dl mu
def sSeq (f g : DS) : DS := fun dl mu => match f dl mu with
  | .nx dl1 m1 => g dl1 m1
  | o => o
def Out.st (o : Out) (dl : Dl) (k : DV → Mu → SOut) : SOut := match o with
  | .ok d m => k d m
  | .exc e m => .exc e dl m
  | .bad => .bad
def sSet (i : Nat) (f : DE) : DS := fun dl mu => (f dl mu).st dl fun d m => .nx (dl.set i (some d)) m
def sDrop (f : DE) : DS := fun dl mu => (f dl mu).st dl fun _ m => .nx dl m
def sRet (f : DE) : DS := fun dl mu => (f dl mu).st dl fun d m => .rt d m
def sRetN : DS := fun _ mu => .rt .non mu
def sBrk : DS := fun dl mu => .bk dl mu
def sCnt : DS := fun dl mu => .ct dl mu
def sIf (c : DE) (f g : DS) : DS := fun dl mu => (c dl mu).st dl fun d m => match d with
  | .bl true => f dl m
  | .bl false => g dl m
  | _ => .bad
/-! targets -/
abbrev Tg := DV → Dl → Option Dl
def tgN (i : Nat) : Tg := fun d dl => some (dl.set i (some d))
def tgs : List Tg → List DV → Dl → Option Dl
  | [], [], dl => some dl
  | t :: ts, d :: ds, dl => match t d dl with
    | some dl1 => tgs ts ds dl1
    | none => none
  | _, _, _ => none
def tgT (ts : List Tg) : Tg := fun d dl => match d with
  | .tup ds => tgs ts ds dl
  | _ => none
def SndG (K : Frag') (g : TG) (t : Tg) : Prop := ∀ (v : V) (d : DV) (sg : L2.St) (H : Hp) (al : Al) (n : Nat) (dl dl' : Dl) (Q : L2.St → Hp → Prop), SlD K H al n sg dl → R K H al n v d → t d dl = some dl' → (∀ sg', SlD K H al n sg' dl' → Q sg' H) → g v sg H Q
def SndGs (K : Frag') (g : TGs) (ts : List Tg) : Prop := ∀ (vs : List V) (ds : List DV) (sg : L2.St) (H : Hp) (al : Al) (n : Nat) (dl dl' : Dl) (Q : L2.St → Hp → Prop), SlD K H al n sg dl → RA K H al n vs ds → tgs ts ds dl = some dl' → (∀ sg', SlD K H al n sg' dl' → Q sg' H) → g vs sg H Q
structure PDG (X : Cx) (e : Expr) (t : Tg) : Prop where
  ex : ∃ g, PG X e g ∧ SndG X.K g t
structure PDGs (X : Cx) (es : List Expr) (ts : List Tg) : Prop where
  ex : ∃ g, PGs X es g ∧ SndGs X.K g ts
def sAsg (t : Tg) (f : DE) : DS := fun dl mu => (f dl mu).st dl fun d m => match t d dl with
  | some dl1 => .nx dl1 m
  | none => .bad
section
variable {K : Frag'} {cm : Cm} {X : Cx} {W : WX} {pos : Pos} {e : Expr} {es : List Expr} {f : DE} {fs gs : DS} {te : TE} {ts tu : TS} {tt : TT} {H : Hp} {al : Al} {mu : Mu} {n : Nat} {st : Stmt} {rest : List Stmt}
theorem snd_next : SndS K cm W tNext sNext := fun sg H al dl mu s sl D h => h sg H al s Lt.refl sl
theorem snd_seq (h1 : SndS K cm W ts fs) (h2 : SndS K cm W tu gs) : SndS K cm W (tSeq ts tu) (sSeq fs gs) := fun sg H al dl mu s sl D h => by
  refine h1 sg H al dl mu s sl { D with nx := tu D } ?_
  have h : SOk K cm H al mu.length (match fs dl mu with | .nx dl1 m1 => gs dl1 m1 | o => o) D W := h
  cases e : fs dl mu with
  | nx dl1 m1 =>
    rw [e] at h
    exact fun sg1 H1 al1 s1 t1 sl1 => h2 sg1 H1 al1 dl1 m1 s1 sl1 D (SOk.later t1 h)
  | rt d m1 => rw [e] at h; exact h
  | bk d m1 => rw [e] at h; exact h
  | ct d m1 => rw [e] at h; exact h
  | exc x d m1 => rw [e] at h; exact h
  | bad => rw [e] at h; exact h
/-- an expression, then what a statement makes of it -/
theorem snd_st {t : TE} {f : DE} {R1 : VK} {k : DV → Mu → SOut} {sg : L2.St} {dl : Dl} {D : Ends} (hA : SndE K cm W t f) (s : SR K cm H al mu) (sl : SlD K H al mu.length sg dl)
    (h : SOk K cm H al mu.length ((f dl mu).st dl k) D W)
    (kont : ∀ d mu1 v H1 al1, SR K cm H1 al1 mu1 → Lt H al mu.length H1 al1 mu1.length → SlD K H1 al1 mu1.length sg dl → R K H1 al1 mu1.length v d → SOk K cm H1 al1 mu1.length (k d mu1) D W → R1 v H1) : t sg H R1 := by
  refine hA sg H al dl mu s sl R1 ?_
  cases e : f dl mu with
  | ok d mu1 =>
    rw [e] at h
    exact fun v H1 al1 s1 t1 r1 => kont d mu1 v H1 al1 s1 t1 (sl.mono t1) r1 (SOk.later t1 h)
  | exc x mu1 =>
    rw [e] at h
    exact fun dd H1 al1 s1 t1 x1 => h dd sg H1 al1 s1 t1 (sl.mono t1) x1
  | bad => rw [e] at h; exact h
theorem snd_asg {g : TG} {t : Tg} (hA : SndE K cm W te f) (hG : SndG K g t) : SndS K cm W (tAsg te g) (sAsg t f) := fun sg H al dl mu s sl D h => by
  refine snd_st (R1 := fun x H1 => g x sg H1 D.nx) hA s sl h fun d m1 v H1 al1 s1 t1 sl1 r1 h1 => ?_
  cases e : t d dl with
  | none => rw [e] at h1; exact h1.elim
  | some dl1 =>
    rw [e] at h1
    exact hG v d sg H1 al1 _ dl dl1 D.nx sl1 r1 e fun sg' sl' => h1 sg' H1 al1 s1 Lt.refl sl'
theorem sg_name {i : Nat} : SndG K (gName i) (tgN i) := fun v d sg H al n dl dl' Q sl r e k => by
  cases e
  exact k _ (sl.set r)
theorem snd_set {i : Nat} (hA : SndE K cm W te f) : SndS K cm W (tAsg te (gName i)) (sSet i f) := snd_asg (t := tgN i) hA sg_name
theorem snd_drop (hA : SndE K cm W te f) : SndS K cm W (tDrop te) (sDrop f) := fun sg H al dl mu s sl D h =>
  snd_st (R1 := fun _ H1 => D.nx sg H1) hA s sl h fun d m1 v H1 al1 s1 t1 sl1 r1 h1 => h1 sg H1 al1 s1 Lt.refl sl1
theorem snd_ret (hA : SndE K cm W te f) : SndS K cm W (tRet te) (sRet f) := fun sg H al dl mu s sl D h =>
  snd_st (R1 := D.rt) hA s sl h fun d m1 v H1 al1 s1 t1 sl1 r1 h1 => h1 v H1 al1 s1 Lt.refl r1
theorem snd_retN : SndS K cm W tRetN sRetN := fun sg H al dl mu s sl D h => h .non H al s Lt.refl .non
theorem snd_brk : SndS K cm W tBreak sBrk := fun sg H al dl mu s sl D h => h sg H al s Lt.refl sl
theorem snd_cnt : SndS K cm W tCont sCnt := fun sg H al dl mu s sl D h => h sg H al s Lt.refl sl
theorem snd_if {c : DE} (h1 : SndT K cm W tt c) (h2 : SndS K cm W ts fs) (h3 : SndS K cm W tu gs) : SndS K cm W (tIfS tt ts tu) (sIf c fs gs) := fun sg H al dl mu s sl D h => by
  refine h1 sg H al dl mu s sl _ ?_
  have h : SOk K cm H al mu.length ((c dl mu).st dl fun d m => match d with | .bl true => fs dl m | .bl false => gs dl m | _ => .bad) D W := h
  cases e : c dl mu with
  | bad => rw [e] at h; exact h
  | exc x m1 =>
    rw [e] at h
    exact fun dd H1 al1 s1 t1 x1 => h dd sg H1 al1 s1 t1 (sl.mono t1) x1
  | ok d m1 =>
    rw [e] at h
    cases d <;> try exact h.elim
    rename_i b
    refine fun v H1 al1 s1 t1 r1 => ?_
    cases r1
    refine ⟨b, rfl, ?_⟩
    cases b with
    | true => rw [if_pos rfl]; exact h2 sg H1 al1 dl m1 s1 (sl.mono t1) D (SOk.later t1 h)
    | false => rw [if_neg Bool.false_ne_true]; exact h3 sg H1 al1 dl m1 s1 (sl.mono t1) D (SOk.later t1 h)
theorem sgs_nil : SndGs K gNil [] := fun vs ds sg H al n dl dl' Q sl r e k => by
  cases r with
  | nil =>
    cases e
    exact ⟨rfl, k _ sl⟩
  | cons _ _ => cases e
theorem sgs_cons {g : TG} {t : Tg} {gr : TGs} {tr : List Tg} (h1 : SndG K g t) (h2 : SndGs K gr tr) : SndGs K (gCons g gr) (t :: tr) := fun vs ds sg H al n dl dl' Q sl r e k => by
  cases r with
  | nil => cases e
  | @cons v vs d ds r1 r2 =>
    have e : (match t d dl with | some dl1 => tgs tr ds dl1 | none => none) = some dl' := e
    cases e1 : t d dl with
    | none => rw [e1] at e; cases e
    | some dl1 =>
      rw [e1] at e
      exact ⟨v, vs, rfl, h1 v d sg H al n dl dl1 _ sl r1 e1 fun sg1 sl1 => h2 vs ds sg1 H al n dl1 dl' Q sl1 r2 e k⟩
theorem tgs_len : ∀ {ts : List Tg} {ds : List DV} {dl dl' : Dl}, tgs ts ds dl = some dl' → ds.length = ts.length
  | [], [], _, _, _ => rfl
  | [], _ :: _, _, _, h => by cases h
  | _ :: _, [], _, _, h => by cases h
  | t :: ts, d :: ds, dl, dl', h => by
    have h : (match t d dl with | some dl1 => tgs ts ds dl1 | none => none) = some dl' := h
    cases e : t d dl with
    | none => rw [e] at h; cases h
    | some dl1 =>
      rw [e] at h
      exact congrArg (· + 1) (tgs_len h)
theorem sg_tup {gr : TGs} {tr : List Tg} {k : Nat} (hk : tr.length = k) (h : SndGs K gr tr) : SndG K (gTup K k gr) (tgT tr) := fun v d sg H al n dl dl' Q sl r e kk => by
  cases d <;> try (cases e; done)
  cases r with
  | tup hl ra => exact ⟨_, _, rfl, hl.sq, by rw [ra.len, tgs_len e, hk], h _ _ sg H al n dl dl' Q sl ra e kk⟩
theorem pdg_name {i : Nat} {x : Str} (hN : X.N.Nodup) (hi : X.N[i]? = some x := by rfl) (hx : Loc X.env.scope x := by first | exact Or.inl rfl | exact Or.inr rfl) (hf : X.fn x = true ∨ X.env.scope.names.lookup x = some .local := by first | exact .inl rfl | exact .inr rfl) : PDG X (.Name x pos) (tgN i) := ⟨_, pg_name hN hi hx hf, sg_name⟩
theorem pdgs_nil : PDGs X [] [] := ⟨_, pgs_nil, sgs_nil⟩
theorem pdgs_cons {ts : List Tg} {t : Tg} (h1 : PDG X e t) (h2 : PDGs X es ts) (hs : (assignEach (e :: es) X.env).map (·.2) = assign e X.env :: (assignEach es X.env).map (·.2) := by rfl) : PDGs X (e :: es) (t :: ts) := let ⟨_, p, s⟩ := h1.ex; let ⟨_, q, u⟩ := h2.ex; ⟨_, pgs_cons p q hs, sgs_cons s u⟩
theorem pdg_tup {k : Nat} {ts : List Tg} (hc : X.calm = true) (h : PDGs X es ts) (hn : (assignEach es X.env).length = ts.length := by rfl) (hst : (assignEach es X.env).findIdx? (·.1) = none := by rfl) : PDG X (.Tuple es k pos) (tgT ts) := let ⟨_, q, u⟩ := h.ex; ⟨_, pg_tup hc q hn hst, sg_tup rfl u⟩

theorem pdb_nil : PDB cm X W [] sNext := ⟨_, pss_nil, snd_next⟩
theorem pdb_cons (h1 : PDS cm X W st fs) (h2 : PDB cm X W rest gs) : PDB cm X W (st :: rest) (sSeq fs gs) := let ⟨_, p, s⟩ := h1.ex; let ⟨_, q, u⟩ := h2.ex; ⟨_, pss_cons p q, snd_seq s u⟩
theorem pdb_one (h1 : PDS cm X W st fs) : PDB cm X W [st] fs := let ⟨_, p, s⟩ := h1.ex; ⟨_, pss_one p, s⟩
theorem pds_set {i : Nat} {x : Str} {p' : Pos} (hN : X.N.Nodup) (h : PDE cm X W e f) (hi : X.N[i]? = some x := by rfl) (hx : Loc X.env.scope x := by first | exact Or.inl rfl | exact Or.inr rfl)
    (hs : swapsWithSole [.Name x p'] e pos.line X.env = pure false := by rfl) (hw : swappedStores [.Name x p'] e X.env = pure none := by rfl) (hf : X.fn x = true ∨ X.env.scope.names.lookup x = some .local := by first | exact .inl rfl | exact .inr rfl) : PDS cm X W (.Assign [.Name x p'] e pos) (sSet i f) := by
  obtain ⟨t, p, s⟩ := h.ex
  exact ⟨_, ps_asg p (pg_name hN hi hx hf) hs hw, snd_set s⟩
theorem pds_asg {tgt : Expr} {t : Tg} (h : PDE cm X W e f) (hg : PDG X tgt t) (hs : swapsWithSole [tgt] e pos.line X.env = pure false := by rfl) (hw : swappedStores [tgt] e X.env = pure none := by rfl)
    (h1 : (assignEach [tgt] X.env).map (·.2) = [assign tgt X.env] := by rfl) : PDS cm X W (.Assign [tgt] e pos) (sAsg t f) := by
  obtain ⟨te, p, s⟩ := h.ex
  obtain ⟨g, q, u⟩ := hg.ex
  exact ⟨_, ps_asg p q hs hw h1, snd_asg s u⟩
theorem pds_expr (h : PDE cm X W e f) (hs : swapsWith e none pos.line X.env = pure false := by rfl) : PDS cm X W (.Expr e pos) (sDrop f) := let ⟨_, p, s⟩ := h.ex; ⟨_, ps_expr p hs, snd_drop s⟩
theorem pds_ret (h : PDE cm X W e f) : PDS cm X W (.Return (some e) pos) (sRet f) := let ⟨_, p, s⟩ := h.ex; ⟨_, ps_ret p, snd_ret s⟩
theorem pds_retN : PDS cm X W (.Return none pos) sRetN := ⟨_, ps_retN, snd_retN⟩
theorem pds_pass : PDS cm X W (.Pass pos) sNext := ⟨_, ps_pass, snd_next⟩
theorem pds_brk : PDS cm X W (.Break pos) sBrk := ⟨_, ps_break, snd_brk⟩
theorem pds_cnt : PDS cm X W (.Continue pos) sCnt := ⟨_, ps_continue, snd_cnt⟩
theorem pds_if {c : Expr} {fc : DE} {b1 b2 : List Stmt} (h1 : PDT cm X W c fc) (h2 : PDB cm X W b1 fs) (h3 : PDB cm X W b2 gs) : PDS cm X W (.If c b1 b2 pos) (sIf fc fs gs) :=
  let ⟨_, p, s⟩ := h1.ex; let ⟨_, q, u⟩ := h2.ex; let ⟨_, q', u'⟩ := h3.ex; ⟨_, ps_if p q q', snd_if s u u'⟩
end

/-! ### what is walked -/
inductive IOut where
  | it (ds : List DV) (m : Mu) | dyn (k : Nat) (m : Mu) | exc (e : Ex) (m : Mu) | bad
/-- it walks just these data and touches nothing -/
def StI (K : Frag') (cm : Cm) (H0 : Hp) (al0 : Al) (n0 : Nat) (J : It) (ds : List DV) : Prop := ∀ (H : Hp) (al : Al) (mu : Mu), SR K cm H al mu → Lt H0 al0 n0 H al mu.length → ∀ i : Nat,
  (i < ds.length → J.go i H ∧ ∀ x H', J.yld i H x H' → SR K cm H' al mu ∧ Lt H al mu.length H' al mu.length ∧ ∃ d, ds[i]? = some d ∧ R K H' al mu.length x d) ∧ (¬ i < ds.length → J.stop i H)
def IOk (K : Frag') (cm : Cm) (H : Hp) (al : Al) (n : Nat) (o : IOut) (R1 : It → Hp → Prop) (E : XK) : Prop := match o with
  | .it ds mu => ∀ J H' al', SR K cm H' al' mu → Lt H al n H' al' mu.length → StI K cm H' al' mu.length J ds → R1 J H'
  | .dyn k mu => ∀ H' al', SR K cm H' al' mu → Lt H al n H' al' mu.length → k < mu.length → R1 (Itl K (al' k)) H'
  | .exc e mu => ∀ dd H' al', SR K cm H' al' mu → Lt H al n H' al' mu.length → XR K H' al' mu.length dd e.fs → E (xcl cm e.cls) dd H'
  | .bad => False
abbrev DI := Dl → Mu → IOut
def SndI (K : Frag') (cm : Cm) (W : WX) (t : TI) (f : DI) : Prop := ∀ (sg : L2.St) (H : Hp) (al : Al) (dl : Dl) (mu : Mu), SR K cm H al mu → SlD K H al mu.length sg dl → ∀ R1 : It → Hp → Prop,
  IOk K cm H al mu.length (f dl mu) R1 (fun c d H' => W c d sg H') → t sg H R1
structure PDI (cm : Cm) (X : Cx) (W : WX) (tg iter : Expr) (f : DI) : Prop where
  ex : ∃ t, PI X tg iter t ∧ SndI X.K cm W t f
def itOf : DV → Mu → IOut
  | .lst ds, m => .it ds m
  | .tup ds, m => .it ds m
  | .str l, m => .it (l.map fun c => .str [c]) m
  | .obj k, m => match m[k]? with
    | some (.lst _) => .dyn k m
    | _ => .bad
  | _, _ => .bad
def Out.it (o : Out) (k : DV → Mu → IOut) : IOut := match o with
  | .ok d m => k d m
  | .exc e m => .exc e m
  | .bad => .bad
/-- a list, a tuple, a text -/
def iSeq (f : DE) : DI := fun dl mu => (f dl mu).it itOf
def AOut.it (a : AOut) (k : List DV → Mu → IOut) : IOut := match a with
  | .ok ds m => k ds m
  | .exc e m => .exc e m
  | .bad => .bad
def rng1 : List DV → Mu → IOut
  | [.int j], m => if -4611686018427387904 ≤ j ∧ j < 4611686018427387904 then .it ((List.range j.toNat).map fun (u : Nat) => .int (u : Int)) m else .bad
  | _, _ => .bad
def rng2 : List DV → Mu → IOut
  | [.int i, .int j], m => if (-4611686018427387904 ≤ i ∧ i < 4611686018427387904) ∧ (-4611686018427387904 ≤ j ∧ j < 4611686018427387904) then .it ((List.range (j - i).toNat).map fun (u : Nat) => .int (i + u)) m else .bad
  | _, _ => .bad
def iRngA (fs : List DE) : DI := fun dl mu => (evA fs dl mu).it rng1
def iRngB (fs : List DE) : DI := fun dl mu => (evA fs dl mu).it rng2
section
variable {K : Frag'} {cm : Cm} {X : Cx} {W : WX} {pos p : Pos} {e tg iter : Expr} {es : List Expr} {f : DE} {fs : List DE} {te : TE} {ta : TA} {H : Hp} {al : Al} {mu : Mu} {n : Nat}
theorem sti_list {a : Addr} {xs : List V} {ds : List DV} (h : LAt K H al n a xs) (ra : RA K H al n xs ds) : StI K cm H al n (Itl K a) ds := fun H1 al1 mu1 s1 t1 i => by
  have h1 := h.mono t1
  have r1 := ra.mono t1
  refine ⟨fun hi => ?_, fun hi => ⟨xs, h1.sq, by rw [r1.len]; omega⟩⟩
  have hx : i < xs.length := by rw [r1.len]; exact hi
  refine ⟨⟨xs, xs[i], h1.sq, List.getElem?_eq_getElem hx⟩, fun x H' y => ?_⟩
  obtain ⟨rfl, y⟩ := y
  obtain ⟨d, e1, e2⟩ := r1.getV (y xs h1.sq)
  exact ⟨s1, Lt.refl, d, e1, e2⟩
theorem sti_tup {a : Addr} {xs : List V} {ds : List DV} (h : TAt K H al n a xs) (ra : RA K H al n xs ds) : StI K cm H al n (Itt K a) ds := fun H1 al1 mu1 s1 t1 i => by
  have h1 := h.mono t1
  have r1 := ra.mono t1
  refine ⟨fun hi => ?_, fun hi => ⟨xs, h1.sq, by rw [r1.len]; omega⟩⟩
  have hx : i < xs.length := by rw [r1.len]; exact hi
  refine ⟨⟨xs, xs[i], h1.sq, List.getElem?_eq_getElem hx⟩, fun x H' y => ?_⟩
  obtain ⟨rfl, y⟩ := y
  obtain ⟨d, e1, e2⟩ := r1.getV (y xs h1.sq)
  exact ⟨s1, Lt.refl, d, e1, e2⟩
theorem sti_str {l : List Nat} : StI K cm H al n (Its (Sx l)) (l.map fun c => .str [c]) := fun H1 al1 mu1 s1 t1 i => by
  have hz : (Sx l).cps.size = l.length := by simp [SX.S]
  rw [List.length_map]
  refine ⟨fun hi => ⟨by show i < (Sx l).cps.size; rw [hz]; exact hi, fun x H' y => ?_⟩, fun hi => by show (Sx l).cps.size ≤ i; rw [hz]; omega⟩
  obtain ⟨rfl, c, e, rfl⟩ := y
  have e : l[i]? = some c := by simpa [SX.S] using e
  exact ⟨s1, Lt.refl, .str [c], by rw [List.getElem?_map, e]; rfl, .str [c]⟩
theorem sti_rng {lo : Int} {m : Nat} : StI K cm H al n (Itr lo m) ((List.range m).map fun (u : Nat) => .int (lo + u)) := fun H1 al1 mu1 s1 t1 i => by
  rw [List.length_map, List.length_range]
  refine ⟨fun hi => ⟨hi, fun x H' y => ?_⟩, fun hi => Nat.le_of_not_lt hi⟩
  obtain ⟨rfl, rfl⟩ := y
  exact ⟨s1, Lt.refl, .int (lo + i), by rw [List.getElem?_map, List.getElem?_range hi]; rfl, .int _⟩
def iAny (K : Frag') (te : TE) : TI := fun σ H R => iList K te σ H R ∨ iTup K te σ H R ∨ iStr te σ H R
theorem PI_or {t u : TI} (h : PI X tg iter t) (h' : PI X tg iter u) : PI X tg iter (fun σ H R => t σ H R ∨ u σ H R) := ⟨fun pins s σ H R I q => q.elim (h.run pins s σ H R I) (h'.run pins s σ H R I)⟩
theorem snd_seqI (hA : SndE K cm W te f) : SndI K cm W (iAny K te) (iSeq f) := fun sg H al dl mu s sl R1 h => by
  have run : ∀ {R2 : VK}, (∀ d m1, f dl mu = .ok d m1 → ∀ v H1 al1, SR K cm H1 al1 m1 → Lt H al mu.length H1 al1 m1.length → R K H1 al1 m1.length v d → R2 v H1) → te sg H R2 := fun {R2} k => by
    refine hA sg H al dl mu s sl R2 ?_
    have h : IOk K cm H al mu.length ((f dl mu).it itOf) R1 _ := h
    cases e : f dl mu with
    | ok d m1 => exact k d m1 e
    | exc x m1 => rw [e] at h; exact h
    | bad => rw [e] at h; exact h
  have h : IOk K cm H al mu.length ((f dl mu).it itOf) R1 _ := h
  cases e : f dl mu with
  | bad => rw [e] at h; exact h.elim
  | exc x m => exact .inl (run fun d m1 e1 => by rw [e] at e1; cases e1)
  | ok d m =>
    rw [e] at h
    cases d with
    | lst ds =>
      refine .inl (run fun d m1 e1 v H1 al1 s1 t1 r1 => ?_)
      rw [e] at e1; cases e1
      cases r1 with
      | lst hl ra => exact ⟨_, rfl, ⟨_, hl.sq⟩, h _ H1 al1 s1 t1 (sti_list hl ra)⟩
    | tup ds =>
      refine .inr (.inl (run fun d m1 e1 v H1 al1 s1 t1 r1 => ?_))
      rw [e] at e1; cases e1
      cases r1 with
      | tup hl ra => exact ⟨_, rfl, ⟨_, hl.sq⟩, h _ H1 al1 s1 t1 (sti_tup hl ra)⟩
    | str l =>
      refine .inr (.inr (run fun d m1 e1 v H1 al1 s1 t1 r1 => ?_))
      rw [e] at e1; cases e1
      cases r1
      exact ⟨_, rfl, h _ H1 al1 s1 t1 sti_str⟩
    | obj k =>
      have h : IOk K cm H al mu.length (match m[k]? with | some (.lst _) => .dyn k m | _ => .bad) R1 _ := h
      cases em : m[k]? with
      | none => rw [em] at h; exact h.elim
      | some o =>
        rw [em] at h
        cases o with
        | lst ds =>
          refine .inl (run fun d m1 e1 v H1 al1 s1 t1 r1 => ?_)
          rw [e] at e1; cases e1
          cases r1 with
          | obj hk =>
            obtain ⟨xs, h1, h2⟩ := s1.ob k _ em
            exact ⟨_, rfl, ⟨xs, SqL.of h1⟩, h H1 al1 s1 t1 hk⟩
        | dic _ => exact h.elim
        | ins _ _ => exact h.elim
    | _ => exact h.elim
theorem pdi_seq (h : PDE cm X W e f) : PDI cm X W tg e (iSeq f) := let ⟨_, p, s⟩ := h.ex; ⟨_, PI_or (pi_list p) (PI_or (pi_tup p) (pi_str p)), snd_seqI s⟩
theorem snd_argI {R2 : List V → Hp → Prop} {R1 : It → Hp → Prop} {k : List DV → Mu → IOut} {sg : L2.St} {dl : Dl} (hA : SndA K cm W ta fs) (s : SR K cm H al mu) (sl : SlD K H al mu.length sg dl)
    (h : IOk K cm H al mu.length ((evA fs dl mu).it k) R1 (fun c d H' => W c d sg H'))
    (kont : ∀ ds m1 vs H1 al1, SR K cm H1 al1 m1 → Lt H al mu.length H1 al1 m1.length → RA K H1 al1 m1.length vs ds → IOk K cm H al mu.length (k ds m1) R1 (fun c d H' => W c d sg H') → R2 vs H1) : ta sg H R2 := by
  refine hA sg H al dl mu s sl R2 ?_
  cases e : evA fs dl mu with
  | ok ds m1 => rw [e] at h; exact fun vs H1 al1 s1 t1 r1 => kont ds m1 vs H1 al1 s1 t1 r1 h
  | exc x m1 => rw [e] at h; exact h
  | bad => rw [e] at h; exact h
theorem snd_rng1 (hA : SndA K cm W ta fs) : SndI K cm W (iRng1 ta) (iRngA fs) := fun sg H al dl mu s sl R1 h => by
  refine snd_argI (R2 := fun vs H1 => ∃ j : Int, vs = [.int j] ∧ -(2 ^ 62) ≤ j ∧ j < 2 ^ 62 ∧ R1 (Itr 0 j.toNat) H1) hA s sl h fun ds m1 vs H1 al1 s1 t1 r1 h1 => ?_
  match ds, r1, h1 with
  | [], _, h1 => exact h1.elim
  | d :: [], r1, h1 =>
    cases d <;> try exact h1.elim
    rename_i j
    cases r1 with
    | cons r rr =>
      cases rr
      cases r
      have h1 : IOk K cm H al mu.length (if -4611686018427387904 ≤ j ∧ j < 4611686018427387904 then .it ((List.range j.toNat).map fun (u : Nat) => .int (u : Int)) m1 else .bad) R1 _ := h1
      by_cases c : -4611686018427387904 ≤ j ∧ j < 4611686018427387904
      · rw [if_pos c] at h1
        refine ⟨j, rfl, c.1, c.2, h1 _ H1 al1 s1 t1 ?_⟩
        have z : StI K cm H1 al1 m1.length (Itr 0 j.toNat) ((List.range j.toNat).map fun (u : Nat) => .int (0 + u)) := sti_rng
        have e : ((List.range j.toNat).map fun (u : Nat) => DV.int (0 + (u : Int))) = (List.range j.toNat).map fun (u : Nat) => .int (u : Int) := List.map_congr_left fun u _ => by rw [Int.zero_add]
        rw [e] at z
        exact z
      · rw [if_neg c] at h1
        exact h1.elim
  | d :: _ :: _, _, h1 => cases d <;> exact h1.elim
theorem snd_rng2 (hA : SndA K cm W ta fs) : SndI K cm W (iRng2 ta) (iRngB fs) := fun sg H al dl mu s sl R1 h => by
  refine snd_argI (R2 := fun vs H1 => ∃ i j : Int, vs = [.int i, .int j] ∧ (-(2 ^ 62) ≤ i ∧ i < 2 ^ 62 ∧ -(2 ^ 62) ≤ j ∧ j < 2 ^ 62) ∧ R1 (Itr i (j - i).toNat) H1) hA s sl h fun ds m1 vs H1 al1 s1 t1 r1 h1 => ?_
  match ds, r1, h1 with
  | [], _, h1 => exact h1.elim
  | [d], _, h1 => cases d <;> exact h1.elim
  | d :: d2 :: [], r1, h1 =>
    cases d <;> try exact h1.elim
    cases d2 <;> try exact h1.elim
    rename_i i j
    cases r1 with
    | cons r rr =>
      cases rr with
      | cons r' rr =>
        cases rr
        cases r
        cases r'
        have h1 : IOk K cm H al mu.length (if (-4611686018427387904 ≤ i ∧ i < 4611686018427387904) ∧ (-4611686018427387904 ≤ j ∧ j < 4611686018427387904) then .it ((List.range (j - i).toNat).map fun (u : Nat) => .int (i + u)) m1 else .bad) R1 _ := h1
        by_cases c : (-4611686018427387904 ≤ i ∧ i < 4611686018427387904) ∧ (-4611686018427387904 ≤ j ∧ j < 4611686018427387904)
        · rw [if_pos c] at h1
          exact ⟨i, j, rfl, ⟨c.1.1, c.1.2, c.2.1, c.2.2⟩, h1 _ H1 al1 s1 t1 sti_rng⟩
        · rw [if_neg c] at h1
          exact h1.elim
  | d :: d2 :: _ :: _, _, h1 => cases d <;> try exact h1.elim
                                cases d2 <;> exact h1.elim
theorem pdi_rng1 {a : Expr} (hg : Gl X "range") (hm : X.mg "range" = none) (h : PDA cm X W [a] fs) (hs : starEach [a] X.env = [(false, eval a X.env)] := by rfl) : PDI cm X W tg (.Call (.Name "range" p) [a] [] pos) (iRngA fs) := let ⟨_, p, s⟩ := h.ex; ⟨_, pi_range1 hg hm p hs, snd_rng1 s⟩
theorem pdi_rng2 {a b : Expr} (hg : Gl X "range") (hm : X.mg "range" = none) (h : PDA cm X W [a, b] fs) (hs : starEach [a, b] X.env = [(false, eval a X.env), (false, eval b X.env)] := by rfl) (hs2 : starEach [b] X.env = [(false, eval b X.env)] := by rfl) : PDI cm X W tg (.Call (.Name "range" p) [a, b] [] pos) (iRngB fs) := let ⟨_, p, s⟩ := h.ex; ⟨_, pi_range2 hg hm p hs hs2, snd_rng2 s⟩
end

/-! ### for -/
def forL (t : Tg) (body : DS) : List DV → DS
  | [], dl, mu => .nx dl mu
  | x :: xs, dl, mu => match t x dl with
    | none => .bad
    | some dl1 => match body dl1 mu with
      | .nx dl2 m2 => forL t body xs dl2 m2
      | .ct dl2 m2 => forL t body xs dl2 m2
      | .bk dl2 m2 => .nx dl2 m2
      | .rt d m2 => .rt d m2
      | .exc e dl2 m2 => .exc e dl2 m2
      | .bad => .bad
def forM (t : Tg) (body : DS) (k : Nat) : Nat → Nat → DS
  | fuel, i, dl, mu => match mu[k]? with
    | some (.lst es) => match es[i]? with
      | none => .nx dl mu
      | some x => match fuel with
        | 0 => .bad
        | fuel + 1 => match t x dl with
          | none => .bad
          | some dl1 => match body dl1 mu with
            | .nx dl2 m2 => forM t body k fuel (i + 1) dl2 m2
            | .ct dl2 m2 => forM t body k fuel (i + 1) dl2 m2
            | .bk dl2 m2 => .nx dl2 m2
            | .rt d m2 => .rt d m2
            | .exc e dl2 m2 => .exc e dl2 m2
            | .bad => .bad
    | _ => .bad
def sFor (f : DI) (t : Tg) (body : DS) : DS := fun dl mu => match f dl mu with
  | .it ds m => forL t body ds dl m
  | .dyn k m => (match m[k]? with
    | some (.lst es) => forM t body k es.length 0 dl m
    | _ => .bad)
  | .exc e m => .exc e dl m
  | .bad => .bad
section
variable {K : Frag'} {cm : Cm} {X : Cx} {W : WX} {pos p : Pos} {tgt iter : Expr} {f : DI} {body : DS} {t : Tg} {g : TG} {wi : TI} {tb : TS} {H : Hp} {al : Al} {mu : Mu} {n : Nat}
/-- what a turn is to reach -/
def Nxt (K : Frag') (cm : Cm) (H1 : Hp) (al1 : Al) (n1 : Nat) (D : Ends) (W : WX) (rest : DS) : L2.St → Hp → Prop := fun sg H => ∃ al dl mu, SR K cm H al mu ∧ Lt H1 al1 n1 H al mu.length ∧ SlD K H al mu.length sg dl ∧ SOk K cm H al mu.length (rest dl mu) D W
theorem turn_ok {rest : DS} {sg : L2.St} {dl : Dl} {x : V} {d : DV} {D : Ends} {H1 : Hp} {al1 : Al} {n1 : Nat} (hG : SndG K g t) (hB : SndS K cm W tb body) (s : SR K cm H al mu) (lt : Lt H1 al1 n1 H al mu.length) (sl : SlD K H al mu.length sg dl) (r : R K H al mu.length x d)
    (h : SOk K cm H al mu.length (match t d dl with | none => .bad | some dl1 => match body dl1 mu with | .nx dl2 m2 => rest dl2 m2 | .ct dl2 m2 => rest dl2 m2 | .bk dl2 m2 => .nx dl2 m2 | .rt d m2 => .rt d m2 | .exc e dl2 m2 => .exc e dl2 m2 | .bad => .bad) D W) :
    g x sg H fun σ2 H2 => tb { D with nx := Nxt K cm H1 al1 n1 D W rest, ct := Nxt K cm H1 al1 n1 D W rest, bk := D.nx } σ2 H2 := by
  cases e1 : t d dl with
  | none => rw [e1] at h; exact h.elim
  | some dl1 =>
    rw [e1] at h
    refine hG x d sg H al _ dl dl1 _ sl r e1 fun sg' sl' => ?_
    refine hB sg' H al dl1 mu s sl' _ ?_
    have h : SOk K cm H al mu.length (match body dl1 mu with | .nx dl2 m2 => rest dl2 m2 | .ct dl2 m2 => rest dl2 m2 | .bk dl2 m2 => .nx dl2 m2 | .rt d m2 => .rt d m2 | .exc e dl2 m2 => .exc e dl2 m2 | .bad => .bad) D W := h
    cases e2 : body dl1 mu with
    | nx dl2 m2 => rw [e2] at h; exact fun sg2 H2 al2 s2 t2 sl2 => ⟨al2, dl2, m2, s2, lt.trans t2, sl2, SOk.later t2 h⟩
    | ct dl2 m2 => rw [e2] at h; exact fun sg2 H2 al2 s2 t2 sl2 => ⟨al2, dl2, m2, s2, lt.trans t2, sl2, SOk.later t2 h⟩
    | bk dl2 m2 => rw [e2] at h; exact h
    | rt d m2 => rw [e2] at h; exact h
    | exc e dl2 m2 => rw [e2] at h; exact h
    | bad => rw [e2] at h; exact h
theorem snd_for (hI : SndI K cm W wi f) (hG : SndG K g t) (hB : SndS K cm W tb body) : SndS K cm W (tFor wi g tb) (sFor f t body) := fun sg H al dl mu s sl D h => by
  refine hI sg H al dl mu s sl _ ?_
  have h : SOk K cm H al mu.length (match f dl mu with | .it ds m => forL t body ds dl m | .dyn k m => (match m[k]? with | some (.lst es) => forM t body k es.length 0 dl m | _ => .bad) | .exc e m => .exc e dl m | .bad => .bad) D W := h
  cases e : f dl mu with
  | bad => rw [e] at h; exact h
  | exc x m => rw [e] at h; exact fun dd H1 al1 s1 t1 x1 => h dd sg H1 al1 s1 t1 (sl.mono t1) x1
  | it ds m =>
    rw [e] at h
    refine fun J H1 al1 s1 t1 st => ?_
    refine ⟨fun i k σ H2 => k = ds.length - i ∧ i ≤ ds.length ∧ Nxt K cm H1 al1 m.length D W (forL t body (ds.drop i)) σ H2, ⟨ds.length, rfl, Nat.zero_le _, al1, dl, m, s1, Lt.refl, sl.mono t1, SOk.later t1 h⟩, ?_⟩
    rintro i k σ H2 ⟨rfl, hi, al2, dl2, m2, s2, lt2, sl2, h2⟩
    obtain ⟨st1, st2⟩ := st H2 al2 m2 s2 lt2 i
    by_cases hlt : i < ds.length
    · obtain ⟨go, yld⟩ := st1 hlt
      refine .inr ⟨go, Nxt K cm H1 al1 m.length D W (forL t body (ds.drop (i + 1))), fun σ' H' q => ⟨ds.length - (i + 1), by omega, rfl, hlt, q⟩, fun x H3 y => ?_⟩
      obtain ⟨s3, t3, d, e1, r3⟩ := yld x H3 y
      have ed : ds.drop i = d :: ds.drop (i + 1) := by
        obtain ⟨hl, e2⟩ := List.getElem?_eq_some_iff.mp e1
        rw [← e2]
        exact List.drop_eq_getElem_cons hl
      rw [ed] at h2
      exact turn_ok hG hB s3 (lt2.trans t3) (sl2.mono t3) r3 (SOk.later t3 h2)
    · have e1 : ds.drop i = [] := List.drop_eq_nil_of_le (by omega)
      rw [e1] at h2
      exact .inl ⟨st2 hlt, h2 σ H2 al2 s2 Lt.refl sl2⟩
  | dyn k m =>
    rw [e] at h
    refine fun H1 al1 s1 t1 hk => ?_
    have h : SOk K cm H al mu.length (match m[k]? with | some (.lst es) => forM t body k es.length 0 dl m | _ => .bad) D W := h
    cases em : m[k]? with
    | none => rw [em] at h; exact h.elim
    | some o =>
      cases o with
      | dic _ => rw [em] at h; exact h.elim
      | ins _ _ => rw [em] at h; exact h.elim
      | lst es0 =>
        rw [em] at h
        refine ⟨fun i u σ H2 => Nxt K cm H1 al1 m.length D W (forM t body k u i) σ H2, ⟨es0.length, al1, dl, m, s1, Lt.refl, sl.mono t1, SOk.later t1 h⟩, ?_⟩
        rintro i fuel σ H2 ⟨al2, dl2, m2, s2, lt2, sl2, h2⟩
        have ek := lt2.same k hk
        unfold forM at h2
        cases em2 : m2[k]? with
        | none => rw [em2] at h2; exact h2.elim
        | some o2 =>
          cases o2 with
          | dic _ => rw [em2] at h2; exact h2.elim
          | ins _ _ => rw [em2] at h2; exact h2.elim
          | lst es =>
            rw [em2] at h2
            obtain ⟨xs, hx, ra⟩ := s2.ob k _ em2
            rw [ek] at hx
            have sq : SqL K H2 (al1 k) xs := SqL.of hx
            dsimp only at h2
            cases ei : es[i]? with
            | none =>
              rw [ei] at h2
              refine .inl ⟨⟨xs, sq, ?_⟩, h2 σ H2 al2 s2 Lt.refl sl2⟩
              rw [ra.len]
              exact List.getElem?_eq_none_iff.mp ei
            | some d =>
              rw [ei] at h2
              obtain ⟨v, e1, r3⟩ := ra.get ei
              cases fuel with
              | zero => exact h2.elim
              | succ fuel =>
                refine .inr ⟨⟨xs, v, sq, e1⟩, Nxt K cm H1 al1 m.length D W (forM t body k fuel (i + 1)), fun σ' H' q => ⟨fuel, Nat.lt_succ_self _, q⟩, fun x H3 y => ?_⟩
                obtain ⟨rfl, y⟩ := y
                have ev : x = v := by
                  have z := y xs sq
                  rw [e1] at z
                  exact (Option.some.inj z).symm
                subst ev
                exact turn_ok hG hB s2 lt2 sl2 r3 h2
theorem pds_for {b : List Stmt} (hp : PassesOwn (model X.prog X.w) X.A X.env X.xe) (hc : X.calm = true) (hi : PDI cm X W tgt iter f) (hg : PDG X tgt t) (hb : PDB cm X W b body) (hs : ∀ x, foldedSetIterable iter X.env x = pure x := by intro _; rfl) :
    PDS cm X W (.For tgt iter b [] pos) (sFor f t body) := let ⟨_, p, s⟩ := hi.ex; let ⟨_, q, u⟩ := hg.ex; let ⟨_, q', u'⟩ := hb.ex; ⟨_, ps_for hp hc p q q' hs, snd_for s u u'⟩
/-! while: some fuel -/
def whileF (c : DE) (body : DS) : Nat → DS
  | 0, _, _ => .bad
  | fuel + 1, dl, mu => (c dl mu).st dl fun d m => match d with
    | .bl true => (match body dl m with
      | .nx dl2 m2 => whileF c body fuel dl2 m2
      | .ct dl2 m2 => whileF c body fuel dl2 m2
      | .bk dl2 m2 => .nx dl2 m2
      | .rt d m2 => .rt d m2
      | .exc e dl2 m2 => .exc e dl2 m2
      | .bad => .bad)
    | .bl false => .nx dl m
    | _ => .bad
theorem snd_while {tc : TT} {c : DE} {fuel : Nat} (hC : SndT K cm W tc c) (hB : SndS K cm W tb body) : SndS K cm W (tWhile tc tb) (whileF c body fuel) := fun sg H al dl mu s sl D h => by
  refine ⟨fun m σ H2 => Nxt K cm H al mu.length D W (whileF c body m) σ H2, ⟨fuel, al, dl, mu, s, Lt.refl, sl, h⟩, ?_⟩
  rintro m σ H2 ⟨al2, dl2, m2, s2, lt2, sl2, h2⟩
  cases m with
  | zero => exact h2.elim
  | succ m =>
    refine hC σ H2 al2 dl2 m2 s2 sl2 _ ?_
    unfold whileF at h2
    cases e : c dl2 m2 with
    | bad => rw [e] at h2; exact h2
    | exc x m3 => rw [e] at h2; exact fun dd H1 al1 s1 t1 x1 => h2 dd σ H1 al1 s1 t1 (sl2.mono t1) x1
    | ok d m3 =>
      rw [e] at h2
      cases d <;> try exact h2.elim
      rename_i b
      refine fun v H3 al3 s3 t3 r3 => ?_
      cases r3
      refine ⟨b, rfl, ?_⟩
      cases b with
      | false => rw [if_neg Bool.false_ne_true]; exact h2 σ H3 al3 s3 t3 (sl2.mono t3)
      | true =>
        rw [if_pos rfl]
        refine ⟨Nxt K cm H al mu.length D W (whileF c body m), fun σ' H' q => ⟨m, Nat.lt_succ_self _, q⟩, ?_⟩
        refine hB σ H3 al3 dl2 m3 s3 (sl2.mono t3) _ ?_
        have h2 : SOk K cm H2 al2 m2.length (match body dl2 m3 with | .nx dl2 m2 => whileF c body m dl2 m2 | .ct dl2 m2 => whileF c body m dl2 m2 | .bk dl2 m2 => .nx dl2 m2 | .rt d m2 => .rt d m2 | .exc e dl2 m2 => .exc e dl2 m2 | .bad => .bad) D W := h2
        have h2 := SOk.later t3 h2
        cases e2 : body dl2 m3 with
        | nx dl4 m4 => rw [e2] at h2; exact fun sg4 H4 al4 s4 t4 sl4 => ⟨al4, dl4, m4, s4, (lt2.trans t3).trans t4, sl4, SOk.later t4 h2⟩
        | ct dl4 m4 => rw [e2] at h2; exact fun sg4 H4 al4 s4 t4 sl4 => ⟨al4, dl4, m4, s4, (lt2.trans t3).trans t4, sl4, SOk.later t4 h2⟩
        | bk dl2 m2 => rw [e2] at h2; exact h2
        | rt d m2 => rw [e2] at h2; exact h2
        | exc e dl2 m2 => rw [e2] at h2; exact h2
        | bad => rw [e2] at h2; exact h2
theorem pds_while (fuel : Nat) {c : Expr} {fc : DE} {b : List Stmt} (hp : PassesOwn (model X.prog X.w) X.A X.env X.xe) (hc : PDT cm X W c fc) (hb : PDB cm X W b body) : PDS cm X W (.While c b [] pos) (whileF fc body fuel) :=
  let ⟨_, p, s⟩ := hc.ex; let ⟨_, q, u⟩ := hb.ex; ⟨_, ps_while hp p q, snd_while s u⟩
end
end DM
/-! comprehensions, slices, built-ins, calls of defs -/
namespace DM
open PySem PySem.Spec PyProof.Rows L2

/-! ### comprehensions -/
def wipeD (dl : Dl) : List Nat → Dl
  | [] => dl
  | v :: vs => (wipeD dl vs).set v none
def eYes : DE := eC (.bl true)
/-- one item: what the test says, what the element is -/
def cStep (t : Tg) (test elt : DE) (dl : Dl) (x : DV) (mu : Mu) (skip : Mu → Out) (take : DV → Mu → Out) : Out := match t x dl with
  | none => .bad
  | some dl1 => match test dl1 mu with
    | .ok (.bl true) m1 => (match elt dl1 m1 with
      | .ok d m2 => take d m2
      | _ => .bad)
    | .ok (.bl false) m1 => skip m1
    | _ => .bad
def compL (fin : List DV → Mu → Out) (t : Tg) (test elt : DE) (dl : Dl) : List DV → List DV → Mu → Out
  | [], acc, mu => fin acc mu
  | x :: xs, acc, mu => cStep t test elt dl x mu (fun m => compL fin t test elt dl xs acc m) fun d m => if acc.length < 1000000 then compL fin t test elt dl xs (acc ++ [d]) m else .bad
def compM (fin : List DV → Mu → Out) (t : Tg) (test elt : DE) (dl : Dl) (k : Nat) : Nat → Nat → List DV → Mu → Out
  | fuel, i, acc, mu => match mu[k]? with
    | some (.lst es) => match es[i]? with
      | none => fin acc mu
      | some x => match fuel with
        | 0 => .bad
        | fuel + 1 => cStep t test elt dl x mu (fun m => compM fin t test elt dl k fuel (i + 1) acc m) fun d m => if acc.length < 1000000 then compM fin t test elt dl k fuel (i + 1) (acc ++ [d]) m else .bad
    | _ => .bad
def finL (acc : List DV) (mu : Mu) : Out := .ok (.lst acc) mu
def finM (acc : List DV) (mu : Mu) : Out := .ok (.obj mu.length) (mu ++ [.lst acc])
def eCompG (fin : List DV → Mu → Out) (f : DI) (t : Tg) (test elt : DE) (vs : List Nat) : DE := fun dl mu => match f dl mu with
  | .it ds m => compL fin t test elt (wipeD dl vs) ds [] m
  | .dyn k m => (match m[k]? with
    | some (.lst es) => compM fin t test elt (wipeD dl vs) k es.length 0 [] m
    | _ => .bad)
  | .exc e m => .exc e m
  | .bad => .bad
abbrev eComp := eCompG finL
/-- the result is an object that may change -/
abbrev eCompM := eCompG finM
abbrev W0 : WX := fun _ _ _ _ => False
/-- a target that stores in the slots vs alone -/
def SndGv (K : Frag') (vs : List Nat) (g : TG) (t : Tg) : Prop := ∀ (v : V) (d : DV) (sg : L2.St) (H : Hp) (al : Al) (n : Nat) (dl dl' : Dl) (Q : L2.St → Hp → Prop), SlD K H al n sg dl → R K H al n v d → t d dl = some dl' → (∀ sg', SlD K H al n sg' dl' → wipe sg' vs = wipe sg vs → Q sg' H) → g v sg H Q
def SndGvs (K : Frag') (vs : List Nat) (g : TGs) (ts : List Tg) : Prop := ∀ (ws : List V) (ds : List DV) (sg : L2.St) (H : Hp) (al : Al) (n : Nat) (dl dl' : Dl) (Q : L2.St → Hp → Prop), SlD K H al n sg dl → RA K H al n ws ds → tgs ts ds dl = some dl' → (∀ sg', SlD K H al n sg' dl' → wipe sg' vs = wipe sg vs → Q sg' H) → g ws sg H Q
theorem wipe_set_in {sg : L2.St} {j : Nat} {o : Option V} : ∀ {vs : List Nat}, j ∈ vs → wipe (sg.set j o) vs = wipe sg vs
  | v :: vs, h => by
    show (wipe (sg.set j o) vs).set v none = (wipe sg vs).set v none
    by_cases hj : j ∈ vs
    · rw [wipe_set_in hj]
    · have e : j = v := by
        rcases List.mem_cons.mp h with e | e
        · exact e
        · exact absurd e hj
      subst e
      have comm : ∀ (us : List Nat), j ∉ us → wipe (sg.set j o) us = (wipe sg us).set j o := by
        intro us
        induction us with
        | nil => intro _; rfl
        | cons u us ih =>
          intro hu
          show (wipe (sg.set j o) us).set u none = ((wipe sg us).set u none).set j o
          rw [ih fun z => hu (List.mem_cons_of_mem _ z)]
          exact List.set_comm _ _ fun z => hu (List.mem_cons.mpr (.inl z))
      rw [comm vs hj, List.set_set]
theorem wipe_idem (sg : L2.St) : ∀ vs : List Nat, wipe (wipe sg vs) vs = wipe sg vs
  | [] => rfl
  | v :: vs => by
    have h : ∀ us : List Nat, (∀ u ∈ us, u ∈ (v :: vs)) → wipe (wipe sg (v :: vs)) us = wipe sg (v :: vs) := by
      intro us
      induction us with
      | nil => intro _; rfl
      | cons u us ih =>
        intro hu
        show (wipe (wipe sg (v :: vs)) us).set u none = wipe sg (v :: vs)
        rw [ih fun w hw => hu w (List.mem_cons_of_mem _ hw)]
        have hmem := hu u List.mem_cons_self
        have at_ : ∀ ws : List Nat, u ∈ ws → (wipe sg ws).set u none = wipe sg ws := by
          intro ws
          induction ws with
          | nil => intro z; cases z
          | cons w ws ih2 =>
            intro z
            show ((wipe sg ws).set w none).set u none = (wipe sg ws).set w none
            by_cases e : u = w
            · subst e; rw [List.set_set]
            · rcases List.mem_cons.mp z with z | z
              · exact absurd z e
              · rw [List.set_comm _ _ (Ne.symm e), ih2 z]
        exact at_ _ hmem
    exact h (v :: vs) fun u hu => hu
section
variable {K : Frag'} {cm : Cm} {X : Cx} {W : WX} {pos p : Pos} {tgt iter elt : Expr} {ifs : List Expr} {f : DI} {fe ft : DE} {t : Tg} {g : TG} {wi : TI} {te : TE} {tt : TT} {H H1 : Hp} {al al1 : Al} {mu : Mu} {n n1 : Nat} {vs : List Nat}
theorem SlD.wipe {sg : L2.St} {dl : Dl} (s : SlD K H al n sg dl) : ∀ vs : List Nat, SlD K H al n (L2.wipe sg vs) (wipeD dl vs)
  | [] => s
  | v :: vs => (SlD.wipe s vs).clr none
theorem sgv_name {i : Nat} (hi : i ∈ vs) : SndGv K vs (gName i) (tgN i) := fun v d sg H al n dl dl' Q sl r e k => by
  cases e
  exact k _ (sl.set r) (wipe_set_in hi)
theorem sgvs_nil : SndGvs K vs gNil [] := fun ws ds sg H al n dl dl' Q sl r e k => by
  cases r with
  | nil =>
    cases e
    exact ⟨rfl, k _ sl rfl⟩
  | cons _ _ => cases e
theorem sgvs_cons {gr : TGs} {tr : List Tg} (h1 : SndGv K vs g t) (h2 : SndGvs K vs gr tr) : SndGvs K vs (gCons g gr) (t :: tr) := fun ws ds sg H al n dl dl' Q sl r e k => by
  cases r with
  | nil => cases e
  | @cons v ws d ds r1 r2 =>
    have e : (match t d dl with | some dl1 => tgs tr ds dl1 | none => none) = some dl' := e
    cases e1 : t d dl with
    | none => rw [e1] at e; cases e
    | some dl1 =>
      rw [e1] at e
      exact ⟨v, ws, rfl, h1 v d sg H al n dl dl1 _ sl r1 e1 fun sg1 sl1 w1 => h2 ws ds sg1 H al n dl1 dl' Q sl1 r2 e fun sg2 sl2 w2 => k sg2 sl2 (w2.trans w1)⟩
theorem sgv_tup {gr : TGs} {tr : List Tg} {k : Nat} (hk : tr.length = k) (h : SndGvs K vs gr tr) : SndGv K vs (gTup K k gr) (tgT tr) := fun v d sg H al n dl dl' Q sl r e kk => by
  cases d <;> try (cases e; done)
  cases r with
  | tup hl ra => exact ⟨_, _, rfl, hl.sq, by rw [ra.len, tgs_len e, hk], h _ _ sg H al n dl dl' Q sl ra e kk⟩
/-- the address D is hidden from all data -/
def hid (al : Al) (D : Addr) : Al := ⟨al.f, fun a => al.fb a ∨ a = D⟩
theorem Lt.hid {D : Addr} {o : HO} (hD : H D = none) : Lt H al n (upd H D o) (hid al D) n :=
  ⟨Nat.le_refl _, fun _ _ => rfl, fun _ h => .inl h, fun a u ha s => ⟨by rw [upd_ne (ne_of_none ha hD)]; exact ha, s, fun z q => q.elim z (ne_of_none ha hD)⟩⟩
theorem SR.hid {D : Addr} {o : HO} (s : SR K cm H al mu) (hD : H D = none) : SR K cm (upd H D o) (DM.hid al D) mu :=
  ⟨s.inj, fun k m hk => (s.ob k m hk).mono (Lt.hid hD) (upd_ne fun e => s.sep hD k (List.getElem?_eq_some_iff.mp hk).1 e.symm), fun a fa => by
    rcases fa with fa | rfl
    · obtain ⟨u, hu⟩ := s.fbt a fa
      exact ⟨u, by rw [upd_ne (ne_of_none hu hD)]; exact hu⟩
    · exact ⟨o, upd_same⟩⟩
/-- what stands at a hidden address changes -/
theorem Lt.poke {D : Addr} {o : HO} (hD : al.fb D) : ∀ {v : V} {d : DV}, R K H al n v d → R K (upd H D o) al n v d := by
  have hL : ∀ {a : Addr} {xs : List V}, LAt K H al n a xs → LAt K (upd H D o) al n a xs := fun {a xs} h => by
    rcases h with ⟨h, s, z⟩ | h
    · have ne : a ≠ D := fun e => z (by rw [e]; exact hD)
      refine .inl ⟨?_, s, z⟩
      rcases h with h | ⟨u, h⟩
      · exact .inl (by rw [upd_ne ne]; exact h)
      · exact .inr ⟨u, by rw [upd_ne ne]; exact h⟩
    · exact .inr h
  have hT : ∀ {a : Addr} {xs : List V}, TAt K H al n a xs → TAt K (upd H D o) al n a xs := fun {a xs} h => by
    rcases h with ⟨h, s, z⟩ | h
    · have ne : a ≠ D := fun e => z (by rw [e]; exact hD)
      refine .inl ⟨?_, s, z⟩
      rcases h with h | ⟨u, h⟩
      · exact .inl (by rw [upd_ne ne]; exact h)
      · exact .inr ⟨u, by rw [upd_ne ne]; exact h⟩
    · exact .inr h
  intro v d r
  exact R.rec (motive_1 := fun v d _ => R K (upd H D o) al n v d) (motive_2 := fun vs ds _ => RA K (upd H D o) al n vs ds)
    .non .bl .int .str .ty (fun h _ ih => .lst (hL h) ih) (fun h _ ih => .tup (hT h) ih) (fun h => .obj h) .nil (fun _ _ i1 i2 => .cons i1 i2) r
theorem poke_all {D : Addr} {o : HO} (hD : al.fb D) : ∀ {vs : List V} {ds : List DV}, RA K H al n vs ds → RA K (upd H D o) al n vs ds
  | _, _, .nil => .nil
  | _, _, .cons r q => .cons (Lt.poke hD r) (poke_all hD q)
theorem poke_K {κ : Type} {D : Addr} {o : HO} (hD : al.fb D) : ∀ {vs : List (κ × V)} {ds : List (κ × DV)}, RK K H al n vs ds → RK K (upd H D o) al n vs ds
  | _, _, .nil => .nil
  | _, _, .cons r q => .cons (Lt.poke hD r) (poke_K hD q)
theorem SR.poke {D : Addr} {o : HO} (s : SR K cm H al mu) (hD : al.fb D) (hS : Sep al mu.length D) : SR K cm (upd H D o) al mu := by
  refine ⟨s.inj, fun k m hk => ?_, fun a fa => ?_⟩
  · have hl := (List.getElem?_eq_some_iff.mp hk).1
    have e : upd H D o (al k) = H (al k) := upd_ne fun z => hS k hl z.symm
    have z := s.ob k m hk
    cases m with
    | lst ds => obtain ⟨xs, h1, h2⟩ := z; exact ⟨xs, e.trans h1, poke_all hD h2⟩
    | dic ds => obtain ⟨xs, h1, h2⟩ := z; exact ⟨xs, e.trans h1, poke_K hD h2⟩
    | ins c ds => obtain ⟨dx, xs, h1, h2⟩ := z; exact ⟨dx, xs, e.trans h1, poke_K hD h2⟩
  · by_cases e : a = D
    · exact ⟨o, by rw [e]; exact upd_same⟩
    · rw [upd_ne e]
      exact s.fbt a fa
theorem LAt.unh {fb : Addr → Prop} (h : ∀ a, fb a → al.fb a) {a : Addr} {xs : List V} (l : LAt K H al n a xs) : LAt K H ⟨al.f, fb⟩ n a xs := l.elim (fun z => .inl ⟨z.1, z.2.1, fun q => z.2.2 (h _ q)⟩) .inr
theorem TAt.unh {fb : Addr → Prop} (h : ∀ a, fb a → al.fb a) {a : Addr} {xs : List V} (l : TAt K H al n a xs) : TAt K H ⟨al.f, fb⟩ n a xs := l.elim (fun z => .inl ⟨z.1, z.2.1, fun q => z.2.2 (h _ q)⟩) .inr
theorem R.unh {fb : Addr → Prop} (h : ∀ a, fb a → al.fb a) : ∀ {v : V} {d : DV}, R K H al n v d → R K H ⟨al.f, fb⟩ n v d := fun {v d} r =>
  R.rec (motive_1 := fun v d _ => R K H ⟨al.f, fb⟩ n v d) (motive_2 := fun vs ds _ => RA K H ⟨al.f, fb⟩ n vs ds)
    .non .bl .int .str .ty (fun l _ ih => .lst (l.unh h) ih) (fun l _ ih => .tup (l.unh h) ih) (fun hk => .obj (al := ⟨al.f, fb⟩) hk) .nil (fun _ _ i1 i2 => .cons i1 i2) r
theorem unh_all {fb : Addr → Prop} (h : ∀ a, fb a → al.fb a) : ∀ {vs : List V} {ds : List DV}, RA K H al n vs ds → RA K H ⟨al.f, fb⟩ n vs ds
  | _, _, .nil => .nil
  | _, _, .cons r q => .cons (r.unh h) (unh_all h q)
theorem unh_K {κ : Type} {fb : Addr → Prop} (h : ∀ a, fb a → al.fb a) : ∀ {vs : List (κ × V)} {ds : List (κ × DV)}, RK K H al n vs ds → RK K H ⟨al.f, fb⟩ n vs ds
  | _, _, .nil => .nil
  | _, _, .cons r q => .cons (r.unh h) (unh_K h q)
theorem SR.unh {fb : Addr → Prop} (h : ∀ a, fb a → al.fb a) (s : SR K cm H al mu) : SR K cm H ⟨al.f, fb⟩ mu := by
  refine ⟨s.inj, fun k m hk => ?_, fun a fa => s.fbt a (h a fa)⟩
  have z := s.ob k m hk
  cases m with
  | lst ds => obtain ⟨xs, h1, h2⟩ := z; exact ⟨xs, h1, unh_all h h2⟩
  | dic ds => obtain ⟨xs, h1, h2⟩ := z; exact ⟨xs, h1, unh_K h h2⟩
  | ins c ds => obtain ⟨dx, xs, h1, h2⟩ := z; exact ⟨dx, xs, h1, unh_K h h2⟩
theorem Lt.unh (t : Lt H1 al1 n1 H al n) : Lt H1 al1 n1 H ⟨al.f, al1.fb⟩ n := ⟨t.len, t.same, fun _ h => h, fun a o ha s => let ⟨h1, s1, _⟩ := t.keep a o ha s; ⟨h1, s1, fun z => z⟩⟩
/-- the state of a comprehension's turn: D holds what was made so far -/
structure CSt (K : Frag') (cm : Cm) (D : Addr) (H1 : Hp) (al1 : Al) (n1 : Nat) (H : Hp) (al : Al) (mu : Mu) (acc : List DV) : Prop where
  sr : SR K cm H al mu
  lt : Lt H1 al1 n1 H al mu.length
  fb : al.fb D
  sp : Sep al mu.length D
  ac : ∃ xs, H D = some (.lst xs) ∧ RA K H al mu.length xs acc
theorem CSt.start {D : Addr} (s : SR K cm H1 al1 mu) (hD : H1 D = none) : CSt K cm D H1 al1 mu.length (upd H1 D (.lst [])) (DM.hid al1 D) mu [] :=
  ⟨s.hid hD, Lt.hid hD, .inr rfl, s.sep hD, [], upd_same, .nil⟩
theorem CSt.later {D : Addr} {acc : List DV} {H' : Hp} {al' : Al} {mu' : Mu} (c : CSt K cm D H1 al1 n1 H al mu acc) (s : SR K cm H' al' mu') (t : Lt H al mu.length H' al' mu'.length) : CSt K cm D H1 al1 n1 H' al' mu' acc := by
  obtain ⟨xs, h1, h2⟩ := c.ac
  obtain ⟨q1, q2, _⟩ := t.keep D _ h1 c.sp
  exact ⟨s, c.lt.trans t, t.fbm D c.fb, q2, xs, q1, h2.mono t⟩
theorem CSt.more {D : Addr} {acc : List DV} {v : V} {d : DV} (c : CSt K cm D H1 al1 n1 H al mu acc) (hD : H1 D = none) (r : R K H al mu.length v d) : ∃ xs, H D = some (.lst xs) ∧ xs.length = acc.length ∧ CSt K cm D H1 al1 n1 (upd H D (.lst (xs ++ [v]))) al mu (acc ++ [d]) := by
  obtain ⟨xs, h1, h2⟩ := c.ac
  refine ⟨xs, h1, h2.len, c.sr.poke c.fb c.sp, ⟨c.lt.len, c.lt.same, c.lt.fbm, fun a o ha s => ?_⟩, c.fb, c.sp, xs ++ [v], upd_same, poke_all c.fb (h2.app (.cons r .nil))⟩
  obtain ⟨q1, q2, q3⟩ := c.lt.keep a o ha s
  exact ⟨by rw [upd_ne (ne_of_none ha hD)]; exact q1, q2, q3⟩
/-- one turn -/
theorem c_turn {D : Addr} {sg : L2.St} {dl : Dl} {acc : List DV} {x : V} {d : DV} {Q : VK} {E : XK} {skip : Mu → Out} {take : DV → Mu → Out} {Nx : Hp → Prop} {H0 : Hp} {al0 : Al} {n0 : Nat}
    (hG : SndGv K vs g t) (hT : SndT K cm W0 tt ft) (hE : SndE K cm W0 te fe) (hD : H1 D = none) (c : CSt K cm D H1 al1 n1 H al mu acc) (sl : SlD K H al mu.length (wipe sg vs) (wipeD dl vs)) (r : R K H al mu.length x d)
    (h : OOk K cm H0 al0 n0 (cStep t ft fe (wipeD dl vs) d mu skip take) Q E)
    (k1 : ∀ H' al' mu', CSt K cm D H1 al1 n1 H' al' mu' acc → OOk K cm H0 al0 n0 (skip mu') Q E → Nx H')
    (k2 : ∀ H' al' mu' e, CSt K cm D H1 al1 n1 H' al' mu' (acc ++ [e]) → OOk K cm H0 al0 n0 (take e mu') Q E → acc.length < 1000000 ∧ Nx H') :
    g x (wipe sg vs) H fun σ2 H2 => wipe σ2 vs = wipe sg vs ∧ tt σ2 H2 fun b H3 => if b = true then te σ2 H3 fun y H4 => ∃ acc, H4 D = some (.lst acc) ∧ acc.length < sizeLine ∧ Nx (upd H4 D (.lst (acc ++ [y]))) else Nx H3 := by
  unfold cStep at h
  cases e1 : t d (wipeD dl vs) with
  | none => rw [e1] at h; exact h.elim
  | some dl1 =>
    rw [e1] at h
    dsimp only at h
    refine hG x d (wipe sg vs) H al _ _ dl1 _ sl r e1 fun sg' sl' w' => ⟨w'.trans (wipe_idem sg vs), ?_⟩
    refine hT sg' H al dl1 mu c.sr sl' _ ?_
    cases e2 : ft dl1 mu with
    | bad => rw [e2] at h; exact h
    | exc z m1 => rw [e2] at h; exact h.elim
    | ok b m1 =>
      rw [e2] at h
      cases b <;> try exact h.elim
      rename_i b
      refine fun v H2 al2 s2 t2 r2 => ?_
      cases r2
      refine ⟨b, rfl, ?_⟩
      have c2 := c.later s2 t2
      cases b with
      | false => rw [if_neg Bool.false_ne_true]; exact k1 H2 al2 m1 c2 h
      | true =>
        rw [if_pos rfl]
        dsimp only at h
        refine hE sg' H2 al2 dl1 m1 s2 (sl'.mono t2) _ ?_
        cases e3 : fe dl1 m1 with
        | bad => rw [e3] at h; exact h
        | exc z m2 => rw [e3] at h; exact h.elim
        | ok y m2 =>
          rw [e3] at h
          refine fun v H3 al3 s3 t3 r3 => ?_
          have c3 := c2.later s3 t3
          obtain ⟨xs, h1, h2, c4⟩ := c3.more hD r3
          obtain ⟨hz, nx⟩ := k2 _ al3 m2 y c4 h
          exact ⟨xs, h1, Nat.lt_of_lt_of_le (by rw [h2]; exact hz) (show 1000000 ≤ sizeLine by decide), nx⟩
/-- what the end makes of the list at D -/
def FinOk (K : Frag') (cm : Cm) (fin : List DV → Mu → Out) : Prop := ∀ (D : Addr) (H0 : Hp) (al0 : Al) (n0 : Nat) (H1 : Hp) (al1 : Al) (mu1 : Mu) (H2 : Hp) (al2 : Al) (m2 : Mu) (acc : List DV) (Q : VK) (E : XK), SR K cm H1 al1 mu1 → Lt H0 al0 n0 H1 al1 mu1.length → H1 D = none →
  CSt K cm D H1 al1 mu1.length H2 al2 m2 acc → OOk K cm H0 al0 n0 (fin acc m2) Q E → Q (.ref D) H2
theorem fin_L : FinOk K cm finL := fun D H0 al0 n0 H1 al1 mu1 H2 al2 m2 acc Q E s1 t1 hD c2 h2 => by
  obtain ⟨ys, hx1, hx2⟩ := c2.ac
  exact h2 _ H2 ⟨al2.f, al1.fb⟩ (c2.sr.unh c2.lt.fbm) (t1.trans c2.lt.unh) (.lst (.inl ⟨.inl hx1, c2.sp, fun z => s1.nf hD z⟩) (unh_all c2.lt.fbm hx2))
def ext2 (al : Al) (fb : Addr → Prop) (n : Nat) (p : Addr) : Al := ⟨fun k => if k = n then p else al k, fb⟩
theorem ext2_same {fb : Addr → Prop} {p : Addr} : ext2 al fb n p n = p := if_pos rfl
theorem ext2_ne {fb : Addr → Prop} {p : Addr} {k : Nat} (h : k < n) : ext2 al fb n p k = al k := if_neg (Nat.ne_of_lt h)
theorem sep2 {fb : Addr → Prop} {D a : Addr} (s : Sep al n a) (ne : a ≠ D) : Sep (ext2 al fb n D) (n + 1) a := fun k hk => by
  by_cases e : k = n
  · subst e; rw [ext2_same]; exact ne
  · rw [ext2_ne (by omega)]; exact s k (by omega)
theorem R.bare {fb : Addr → Prop} {D : Addr} (hD : al.fb D) (h : ∀ a, fb a → al.fb a) : ∀ {v : V} {d : DV}, R K H al n v d → R K H (ext2 al fb n D) (n + 1) v d := by
  have hL : ∀ {a : Addr} {xs : List V}, LAt K H al n a xs → LAt K H (ext2 al fb n D) (n + 1) a xs := fun {a xs} l => l.elim (fun z => .inl ⟨z.1, sep2 z.2.1 fun e => z.2.2 (by rw [e]; exact hD), fun q => z.2.2 (h _ q)⟩) .inr
  have hT : ∀ {a : Addr} {xs : List V}, TAt K H al n a xs → TAt K H (ext2 al fb n D) (n + 1) a xs := fun {a xs} l => l.elim (fun z => .inl ⟨z.1, sep2 z.2.1 fun e => z.2.2 (by rw [e]; exact hD), fun q => z.2.2 (h _ q)⟩) .inr
  intro v d r
  refine R.rec (motive_1 := fun v d _ => R K H (ext2 al fb n D) (n + 1) v d) (motive_2 := fun vs ds _ => RA K H (ext2 al fb n D) (n + 1) vs ds)
    .non .bl .int .str .ty (fun l _ ih => .lst (hL l) ih) (fun l _ ih => .tup (hT l) ih) (fun {k} hk => ?_) .nil (fun _ _ i1 i2 => .cons i1 i2) r
  have z : R K H (ext2 al fb n D) (n + 1) (.ref (ext2 al fb n D k)) (.obj k) := .obj (Nat.lt_succ_of_lt hk)
  rw [ext2_ne hk] at z
  exact z
theorem bare_all {fb : Addr → Prop} {D : Addr} (hD : al.fb D) (h : ∀ a, fb a → al.fb a) : ∀ {vs : List V} {ds : List DV}, RA K H al n vs ds → RA K H (ext2 al fb n D) (n + 1) vs ds
  | _, _, .nil => .nil
  | _, _, .cons r q => .cons (r.bare hD h) (bare_all hD h q)
theorem bare_K {κ : Type} {fb : Addr → Prop} {D : Addr} (hD : al.fb D) (h : ∀ a, fb a → al.fb a) : ∀ {vs : List (κ × V)} {ds : List (κ × DV)}, RK K H al n vs ds → RK K H (ext2 al fb n D) (n + 1) vs ds
  | _, _, .nil => .nil
  | _, _, .cons r q => .cons (r.bare hD h) (bare_K hD h q)
/-- the hidden list becomes an object -/
theorem fin_M : FinOk K cm finM := fun D H0 al0 n0 H1 al1 mu1 H2 al2 m2 acc Q E s1 t1 hD c2 h2 => by
  obtain ⟨ys, hx1, hx2⟩ := c2.ac
  have el : (m2 ++ [MO.lst acc]).length = m2.length + 1 := by rw [List.length_append, List.length_singleton]
  have sr : SR K cm H2 (ext2 al2 al1.fb m2.length D) (m2 ++ [.lst acc]) := by
    refine ⟨fun i j hi hj e => ?_, fun k u hu => ?_, fun a fa => c2.sr.fbt a (c2.lt.fbm a fa)⟩
    · rw [el] at hi hj
      by_cases h1 : i = m2.length
      · by_cases h3 : j = m2.length
        · omega
        · rw [h1, ext2_same, ext2_ne (by omega)] at e
          exact absurd e (c2.sp j (by omega))
      · by_cases h3 : j = m2.length
        · rw [h3, ext2_same, ext2_ne (by omega)] at e
          exact absurd e.symm (c2.sp i (by omega))
        · rw [ext2_ne (by omega), ext2_ne (by omega)] at e
          exact c2.sr.inj i j (by omega) (by omega) e
    · rw [el]
      by_cases h1 : k < m2.length
      · rw [List.getElem?_append_left h1] at hu
        rw [ext2_ne h1]
        have z := c2.sr.ob k u hu
        cases u with
        | lst ds => obtain ⟨xs, g1, g2⟩ := z; exact ⟨xs, g1, bare_all c2.fb c2.lt.fbm g2⟩
        | dic ds => obtain ⟨xs, g1, g2⟩ := z; exact ⟨xs, g1, bare_K c2.fb c2.lt.fbm g2⟩
        | ins c ds => obtain ⟨dx, xs, g1, g2⟩ := z; exact ⟨dx, xs, g1, bare_K c2.fb c2.lt.fbm g2⟩
      · have hk' := (List.getElem?_eq_some_iff.mp hu).1
        rw [el] at hk'
        have e : k = m2.length := by omega
        subst e
        rw [List.getElem?_append_right (Nat.le_refl _), Nat.sub_self] at hu
        cases hu
        rw [ext2_same]
        exact ⟨ys, hx1, bare_all c2.fb c2.lt.fbm hx2⟩
  have lt : Lt H1 al1 mu1.length H2 (ext2 al2 al1.fb m2.length D) (m2 ++ [MO.lst acc]).length := by
    rw [el]
    have hl := c2.lt.len
    refine ⟨by omega, fun k hk => by rw [ext2_ne (by omega)]; exact c2.lt.same k hk, fun _ h => h, fun a o ha s => ?_⟩
    obtain ⟨q1, q2, _⟩ := c2.lt.keep a o ha s
    exact ⟨q1, sep2 q2 (ne_of_none ha hD), fun z => z⟩
  refine h2 _ H2 (ext2 al2 al1.fb m2.length D) sr (t1.trans lt) ?_
  rw [el]
  have z : R K H2 (ext2 al2 al1.fb m2.length D) (m2.length + 1) (.ref (ext2 al2 al1.fb m2.length D m2.length)) (.obj m2.length) := .obj (Nat.lt_succ_self _)
  rw [ext2_same] at z
  exact z
theorem snd_comp {fin : List DV → Mu → Out} (hF : FinOk K cm fin) (hI : SndI K cm W wi f) (hG : SndGv K vs g t) (hT : SndT K cm W0 tt ft) (hE : SndE K cm W0 te fe) : SndE K cm W (tLc wi g tt te vs) (eCompG fin f t ft fe vs) := fun sg H al dl mu s sl Q h => by
  refine hI sg H al dl mu s sl _ ?_
  unfold eCompG at h
  cases e : f dl mu with
  | bad => rw [e] at h; exact h
  | exc z m => rw [e] at h; exact h
  | it ds m =>
    rw [e] at h
    dsimp only at h
    refine fun J H1 al1 s1 t1 st D hD => ?_
    have slw := (sl.mono t1).wipe vs
    refine ⟨fun i k H2 => k = ds.length - i ∧ i ≤ ds.length ∧ ∃ al2 m2 acc, CSt K cm D H1 al1 m.length H2 al2 m2 acc ∧ OOk K cm H al mu.length (compL fin t ft fe (wipeD dl vs) (ds.drop i) acc m2) Q (fun c d H' => W c d sg H'), ⟨ds.length, rfl, Nat.zero_le _, _, m, [], CSt.start s1 hD, h⟩, ?_⟩
    rintro i k H2 ⟨rfl, hi, al2, m2, acc, c2, h2⟩
    obtain ⟨st1, st2⟩ := st H2 al2 m2 c2.sr c2.lt i
    by_cases hlt : i < ds.length
    · obtain ⟨go, yld⟩ := st1 hlt
      refine .inr ⟨go, fun H' => ∃ al2 m2 acc, CSt K cm D H1 al1 m.length H' al2 m2 acc ∧ OOk K cm H al mu.length (compL fin t ft fe (wipeD dl vs) (ds.drop (i + 1)) acc m2) Q (fun c d H' => W c d sg H'), fun H' q => ⟨ds.length - (i + 1), by omega, rfl, hlt, q⟩, fun x H3 y => ?_⟩
      obtain ⟨s3, t3, d, e1, r3⟩ := yld x H3 y
      have ed : ds.drop i = d :: ds.drop (i + 1) := by
        obtain ⟨hl, e2⟩ := List.getElem?_eq_some_iff.mp e1
        rw [← e2]
        exact List.drop_eq_getElem_cons hl
      rw [ed] at h2
      have c3 := c2.later s3 t3
      refine c_turn hG hT hE hD c3 (slw.mono c3.lt) r3 h2 (fun H' al' mu' c' h' => ⟨al', mu', acc, c', h'⟩) (fun H' al' mu' e c' h' => ?_)
      by_cases hz : acc.length < 1000000
      · rw [if_pos hz] at h'
        exact ⟨hz, al', mu', acc ++ [e], c', h'⟩
      · rw [if_neg hz] at h'
        exact h'.elim
    · have e1 : ds.drop i = [] := List.drop_eq_nil_of_le (by omega)
      rw [e1] at h2
      exact .inl ⟨st2 hlt, hF D H al mu.length H1 al1 m H2 al2 m2 acc Q _ s1 t1 hD c2 h2⟩
  | dyn k m =>
    rw [e] at h
    dsimp only at h
    refine fun H1 al1 s1 t1 hk D hD => ?_
    have slw := (sl.mono t1).wipe vs
    cases em : m[k]? with
    | none => rw [em] at h; exact h.elim
    | some o =>
      cases o with
      | dic _ => rw [em] at h; exact h.elim
      | ins _ _ => rw [em] at h; exact h.elim
      | lst es0 =>
        rw [em] at h
        dsimp only at h
        refine ⟨fun i fuel H2 => ∃ al2 m2 acc, CSt K cm D H1 al1 m.length H2 al2 m2 acc ∧ OOk K cm H al mu.length (compM fin t ft fe (wipeD dl vs) k fuel i acc m2) Q (fun c d H' => W c d sg H'), ⟨es0.length, _, m, [], CSt.start s1 hD, h⟩, ?_⟩
        rintro i fuel H2 ⟨al2, m2, acc, c2, h2⟩
        have ek := c2.lt.same k hk
        unfold compM at h2
        cases em2 : m2[k]? with
        | none => rw [em2] at h2; exact h2.elim
        | some o2 =>
          cases o2 with
          | dic _ => rw [em2] at h2; exact h2.elim
          | ins _ _ => rw [em2] at h2; exact h2.elim
          | lst es =>
            rw [em2] at h2
            obtain ⟨xs, hx, ra⟩ := c2.sr.ob k _ em2
            rw [ek] at hx
            have sq : SqL K H2 (al1 k) xs := SqL.of hx
            dsimp only at h2
            cases ei : es[i]? with
            | none =>
              rw [ei] at h2
              exact .inl ⟨⟨xs, sq, by rw [ra.len]; exact List.getElem?_eq_none_iff.mp ei⟩, hF D H al mu.length H1 al1 m H2 al2 m2 acc Q _ s1 t1 hD c2 h2⟩
            | some d =>
              rw [ei] at h2
              obtain ⟨v, e1, r3⟩ := ra.get ei
              cases fuel with
              | zero => exact h2.elim
              | succ fuel =>
                refine .inr ⟨⟨xs, v, sq, e1⟩, fun H' => ∃ al2 m2 acc, CSt K cm D H1 al1 m.length H' al2 m2 acc ∧ OOk K cm H al mu.length (compM fin t ft fe (wipeD dl vs) k fuel (i + 1) acc m2) Q (fun c d H' => W c d sg H'), fun H' q => ⟨fuel, Nat.lt_succ_self _, q⟩, fun x H3 y => ?_⟩
                obtain ⟨rfl, y⟩ := y
                have ev : x = v := by
                  have z := y xs sq
                  rw [e1] at z
                  exact (Option.some.inj z).symm
                subst ev
                refine c_turn hG hT hE hD c2 (slw.mono c2.lt) r3 h2 (fun H' al' mu' c' h' => ⟨al', mu', acc, c', h'⟩) (fun H' al' mu' e c' h' => ?_)
                by_cases hz : acc.length < 1000000
                · rw [if_pos hz] at h'
                  exact ⟨hz, al', mu', acc ++ [e], c', h'⟩
                · rw [if_neg hz] at h'
                  exact h'.elim
theorem snd_yes : SndT K cm W0 tYes eYes := fun sg H al dl mu s sl R1 h => by
  obtain ⟨b, e, z⟩ := h _ H al s Lt.refl (.bl true)
  cases e
  exact z
end
section
variable {cm : Cm} {X : Cx} {W : WX} {pos p spos : Pos} {tgt iter elt : Expr} {ifs : List Expr} {scope : Scope} {own : List (Str × Nat)} {f : DI} {fe ft : DE} {t : Tg} {fin : List DV → Mu → Out}
/-- a comprehension's own context -/
abbrev Blk (X : Cx) (s : Shared) (H : Hp) (scope : Scope) (C : Addr) (cl : List (Str × Addr)) (fp : List Addr) : Cx := X.blk s H scope (compEnvC scope cl C X.env) fp
/-! the widest readings -/
def canE (K : Frag') (cm : Cm) (W : WX) (f : DE) : TE := fun sg H Q => ∃ al dl mu, SR K cm H al mu ∧ SlD K H al mu.length sg dl ∧ OOk K cm H al mu.length (f dl mu) Q (fun c d H' => W c d sg H')
def canT (K : Frag') (cm : Cm) (W : WX) (f : DE) : TT := fun sg H R1 => ∃ al dl mu, SR K cm H al mu ∧ SlD K H al mu.length sg dl ∧ OOk K cm H al mu.length (f dl mu) (fun v H' => ∃ b, v = .bl b ∧ R1 b H') (fun c d H' => W c d sg H')
def canGv (K : Frag') (vs : List Nat) (t : Tg) : TG := fun v sg H Q => ∃ d al n dl dl', SlD K H al n sg dl ∧ R K H al n v d ∧ t d dl = some dl' ∧ ∀ sg', SlD K H al n sg' dl' → wipe sg' vs = wipe sg vs → Q sg' H
theorem can_E {K : Frag'} {f : DE} : SndE K cm W (canE K cm W f) f := fun sg H al dl mu s sl Q h => ⟨al, dl, mu, s, sl, h⟩
theorem can_T {K : Frag'} {f : DE} : SndT K cm W (canT K cm W f) f := fun sg H al dl mu s sl Q h => ⟨al, dl, mu, s, sl, h⟩
theorem can_Gv {K : Frag'} {vs : List Nat} : SndGv K vs (canGv K vs t) t := fun v d sg H al n dl dl' Q sl r e k => ⟨d, al, n, dl, dl', sl, r, e, k⟩
theorem PDE.can {e : Expr} {f : DE} (h : PDE cm X W e f) : PE X e (canE X.K cm W f) := by
  obtain ⟨t, p, s⟩ := h.ex
  exact ⟨fun pins s' σ H Q I q => let ⟨al, dl, mu, sr, sl, h⟩ := q; p.run pins s' σ H Q I (s σ H al dl mu sr sl Q h)⟩
theorem PDT.can {e : Expr} {f : DE} (h : PDT cm X W e f) : PT X e (canT X.K cm W f) := by
  obtain ⟨t, p, s⟩ := h.ex
  exact ⟨fun pins s' σ H Q I q => let ⟨al, dl, mu, sr, sl, h⟩ := q; p.run pins s' σ H Q I (s σ H al dl mu sr sl Q h)⟩
structure PDGv (X : Cx) (vs : List Nat) (e : Expr) (t : Tg) : Prop where
  ex : ∃ g, PG X e g ∧ SndGv X.K vs g t
structure PDGvs (X : Cx) (vs : List Nat) (es : List Expr) (ts : List Tg) : Prop where
  ex : ∃ g, PGs X es g ∧ SndGvs X.K vs g ts
theorem PDGv.can {vs : List Nat} {e : Expr} (h : PDGv X vs e t) : PG X e (canGv X.K vs t) := by
  obtain ⟨g, p, s⟩ := h.ex
  exact ⟨fun pins s' σ H v u Q I r q => let ⟨d, al, n, dl, dl', sl, rr, e, k⟩ := q; p.run pins s' σ H v u Q I r (s v d σ H al n dl dl' Q sl rr e k)⟩
theorem pdgv_name {vs : List Nat} {i : Nat} {x : Str} (hN : X.N.Nodup) (hi : X.N[i]? = some x := by rfl) (hx : Loc X.env.scope x := by first | exact Or.inl rfl | exact Or.inr rfl) (hf : X.fn x = true ∨ X.env.scope.names.lookup x = some .local := by first | exact .inl rfl | exact .inr rfl) (hv : i ∈ vs := by decide) : PDGv X vs (.Name x pos) (tgN i) := ⟨_, pg_name hN hi hx hf, sgv_name hv⟩
theorem pdgvs_nil {vs : List Nat} : PDGvs X vs [] [] := ⟨_, pgs_nil, sgvs_nil⟩
theorem pdgvs_cons {vs : List Nat} {e : Expr} {es : List Expr} {ts : List Tg} (h1 : PDGv X vs e t) (h2 : PDGvs X vs es ts) (hs : (assignEach (e :: es) X.env).map (·.2) = assign e X.env :: (assignEach es X.env).map (·.2) := by rfl) : PDGvs X vs (e :: es) (t :: ts) := let ⟨_, p, s⟩ := h1.ex; let ⟨_, q, u⟩ := h2.ex; ⟨_, pgs_cons p q hs, sgvs_cons s u⟩
theorem pdgv_tup {vs : List Nat} {es : List Expr} {k : Nat} {ts : List Tg} (hc : X.calm = true) (h : PDGvs X vs es ts) (hn : (assignEach es X.env).length = ts.length := by rfl) (hst : (assignEach es X.env).findIdx? (·.1) = none := by rfl) : PDGv X vs (.Tuple es k pos) (tgT ts) := let ⟨_, q, u⟩ := h.ex; ⟨_, pg_tup hc q hn hst, sgv_tup rfl u⟩
/-- the tests of a comprehension: none, or one -/
structure PDTs (cm : Cm) (X : Cx) (W : WX) (es : List Expr) (f : DE) : Prop where
  ex : ∃ t, PTs X es t ∧ SndT X.K cm W t f
theorem pdts_nil : PDTs cm X W0 [] eYes := ⟨_, pts_nil, snd_yes⟩
theorem pdts_one {e : Expr} {f : DE} (h : PDT cm X W e f) : PDTs cm X W [e] f := let ⟨_, p, s⟩ := h.ex; ⟨_, pts_one p, s⟩
theorem PDTs.can {es : List Expr} {f : DE} (h : PDTs cm X W es f) : PTs X es (canT X.K cm W f) := by
  obtain ⟨t, p, s⟩ := h.ex
  exact ⟨fun pins s' σ H Q I q => let ⟨al, dl, mu, sr, sl, h⟩ := q; p.run pins s' σ H Q I (s σ H al dl mu sr sl Q h)⟩
theorem pd_comp (hF : FinOk X.K cm fin) (hc : X.calm = true) (hN : X.N.Nodup) (hi : PDI cm X W tgt iter f) (ok : BlkOk X.N X.env.scope scope own)
    (hg : ∀ (s : Shared) (H : Hp) (C : Addr) (cl : List (Str × Addr)) (fp : List Addr), PDGv (Blk X s H scope C cl fp) (own.map (·.2)) tgt t)
    (ht : ∀ (s : Shared) (H : Hp) (C : Addr) (cl : List (Str × Addr)) (fp : List Addr), PDTs cm (Blk X s H scope C cl fp) W0 ifs ft)
    (he : ∀ (s : Shared) (H : Hp) (C : Addr) (cl : List (Str × Addr)) (fp : List Addr), PDE cm (Blk X s H scope C cl fp) W0 elt fe)
    (hs : ∀ x, foldedSetIterable iter X.env x = pure x := by intro _; rfl) : PDE cm X W (.ListComp elt [⟨tgt, iter, ifs, 0⟩] scope pos) (eCompG fin f t ft fe (own.map (·.2))) := by
  obtain ⟨_, pi, si⟩ := hi.ex
  exact ⟨_, pe_lc hc hN pi ok (fun s H C cl fp => (hg s H C cl fp).can) (fun s H C cl fp => (ht s H C cl fp).can) (fun s H C cl fp => (he s H C cl fp).can) hs, snd_comp hF si can_Gv can_T can_E⟩
theorem pds_setComp {i : Nat} {y : Str} {py : Pos} (hF : FinOk X.K cm fin) (hc : X.calm = true) (hN : X.N.Nodup) (hyl : X.env.scope.names.lookup y = some .local) (hsw : swapsWith (.ListComp elt [⟨tgt, iter, ifs, 0⟩] scope pos) (some (.Name y py)) spos.line X.env = pure true) (hi : PDI cm X W tgt iter f) (ok : BlkOk X.N X.env.scope scope own)
    (hg : ∀ (s : Shared) (H : Hp) (C : Addr) (cl : List (Str × Addr)) (fp : List Addr), PDGv (Blk X s H scope C cl fp) (own.map (·.2)) tgt t)
    (ht : ∀ (s : Shared) (H : Hp) (C : Addr) (cl : List (Str × Addr)) (fp : List Addr), PDTs cm (Blk X s H scope C cl fp) W0 ifs ft)
    (he : ∀ (s : Shared) (H : Hp) (C : Addr) (cl : List (Str × Addr)) (fp : List Addr), PDE cm (Blk X s H scope C cl fp) W0 elt fe)
    (hs : ∀ x, foldedSetIterable iter X.env x = pure x := by intro _; rfl) (hy : X.N[i]? = some y := by rfl) : PDS cm X W (.Assign [.Name y py] (.ListComp elt [⟨tgt, iter, ifs, 0⟩] scope pos) spos) (sSet i (eCompG fin f t ft fe (own.map (·.2)))) := by
  obtain ⟨_, pi, si⟩ := hi.ex
  exact ⟨_, ps_setLc hc hN hy hyl hsw pi ok (fun s H C cl fp => (hg s H C cl fp).can) (fun s H C cl fp => (ht s H C cl fp).can) (fun s H C cl fp => (he s H C cl fp).can) hs, snd_set (snd_comp hF si can_Gv can_T can_E)⟩
end

/-! ### slices -/
abbrev DO := Dl → Mu → Out
def partOf : DV → Option (Option Int)
  | .non => some none
  | .int i => some (some i)
  | _ => none
def gSl (d : DV) (lo hi : Option Int) (mu : Mu) : Option DV := match d with
  | .str z => if z.length ≤ 1000000 then some (.str ((z.drop (HT.sIx z.length 0 lo)).take (HT.sIx z.length z.length hi - HT.sIx z.length 0 lo))) else none
  | .tup ds => if HT.sIx ds.length 0 lo = 0 ∧ HT.sIx ds.length ds.length hi = ds.length then none else some (.tup ((ds.drop (HT.sIx ds.length 0 lo)).take (HT.sIx ds.length ds.length hi - HT.sIx ds.length 0 lo)))
  | d => match lstOf mu d with
    | some ds => some (.lst ((ds.drop (HT.sIx ds.length 0 lo)).take (HT.sIx ds.length ds.length hi - HT.sIx ds.length 0 lo)))
    | none => none
/-- a part left out is told by eC .non -/
def eSl (fe fl fh : DE) : DE := fun dl mu => (fe dl mu).bind fun d m1 => (fl dl m1).bind fun l m2 => match partOf l with
  | some lo => (fh dl m2).bind fun h m3 => (match partOf h with
    | some hi => lift (gSl d lo hi m3) m3
    | none => .bad)
  | none => .bad
structure PDO (cm : Cm) (X : Cx) (W : WX) (e : Option Expr) (f : DE) : Prop where
  ex : ∃ t : TO, PO X e t ∧ ∀ (sg : L2.St) (H : Hp) (al : Al) (dl : Dl) (mu : Mu), SR X.K cm H al mu → SlD X.K H al mu.length sg dl → ∀ R1 : Option Int → Hp → Prop, OOk X.K cm H al mu.length (f dl mu) (fun v H' => ∃ o, R1 o H' ∧ v = (match o with | none => .non | some i => .int i)) (fun c d H' => W c d sg H') → t sg H R1
section
variable {K : Frag'} {cm : Cm} {X : Cx} {W : WX} {pos p2 : Pos} {e : Expr} {lo hi : Option Expr} {fe fl fh : DE} {H : Hp} {al : Al} {mu : Mu}
theorem pdo_none : PDO cm X W none (eC .non) := ⟨_, po_none, fun sg H al dl mu s sl R1 h => by
  obtain ⟨o, q, e⟩ := h _ H al s Lt.refl .non
  cases o with
  | none => exact q
  | some i => cases e⟩
def eI (f : DE) : DE := fun dl mu => (f dl mu).bind fun d m => match d with
  | .int i => .ok (.int i) m
  | _ => .bad
theorem pdo_some {f : DE} (h : PDE cm X W e f) : PDO cm X W (some e) (eI f) := by
  obtain ⟨t, p, s⟩ := h.ex
  refine ⟨_, po_some p, fun sg H al dl mu sr sl R1 q => ?_⟩
  refine snd_bind (R1 := fun x H1 => ∃ i, x = .int i ∧ R1 (some i) H1) s sr sl rfl q fun d m1 v H1 al1 s1 t1 sl1 r1 h1 => ?_
  cases d <;> try exact h1.elim
  cases r1
  obtain ⟨o, z, e⟩ := h1 _ H1 al1 s1 Lt.refl (.int _)
  cases o with
  | none => cases e
  | some i => cases e; exact ⟨_, rfl, z⟩
def rSlAny (K : Frag') : V → Option Int → Option Int → Hp → VK → Prop := fun x lo hi H Q => rSlL K x lo hi H Q ∨ rSlT K x lo hi H Q ∨ rSlS x lo hi H Q
theorem sl_ok {x : V} {d e : DV} {lo hi : Option Int} {Q : VK} (s : SR K cm H al mu) (r : R K H al mu.length x d) (h : gSl d lo hi mu = some e) (k : ∀ v H', SR K cm H' al mu → Lt H al mu.length H' al mu.length → R K H' al mu.length v e → Q v H') : rSlAny K x lo hi H Q := by
  have other : (match lstOf mu d with | some ds => some (DV.lst ((ds.drop (HT.sIx ds.length 0 lo)).take (HT.sIx ds.length ds.length hi - HT.sIx ds.length 0 lo))) | none => none) = some e → rSlL K x lo hi H Q := fun h => by
    cases el : lstOf mu d with
    | none => rw [el] at h; cases h
    | some ds =>
      rw [el] at h
      cases h
      obtain ⟨a, xs, rfl, h1, h2⟩ := lst_of s r el
      refine ⟨a, xs, rfl, h1, fun p hp => ?_⟩
      have t : Lt H al mu.length (upd H p (.lst (cutV xs lo hi))) al mu.length := Lt.new (mu := mu) hp
      have cut : RA K H al mu.length (cutV xs lo hi) ((ds.drop (HT.sIx ds.length 0 lo)).take (HT.sIx ds.length ds.length hi - HT.sIx ds.length 0 lo)) := by
        unfold cutV
        rw [h2.len]
        exact (h2.drop _).take _
      exact k _ _ (s.new hp) t (.lst (.inl ⟨.inl upd_same, s.sep hp, s.nf hp⟩) (cut.mono t))
  cases d with
  | str z =>
    cases r
    have h : (if z.length ≤ 1000000 then some (DV.str ((z.drop (HT.sIx z.length 0 lo)).take (HT.sIx z.length z.length hi - HT.sIx z.length 0 lo))) else none) = some e := h
    by_cases c : z.length ≤ 1000000
    · rw [if_pos c] at h
      cases h
      refine .inr (.inr ⟨_, rfl, line_big (by rw [SX.S_len]; exact c), ?_⟩)
      have ee : cutS (Sx z) lo hi = Sx ((z.drop (HT.sIx z.length 0 lo)).take (HT.sIx z.length z.length hi - HT.sIx z.length 0 lo)) := by
        unfold cutS
        rw [SX.S_len]
      rw [ee]
      exact k _ H s Lt.refl (.str _)
    · rw [if_neg c] at h
      cases h
  | tup ds =>
    cases r with
    | tup hl ra =>
      have h : (if HT.sIx ds.length 0 lo = 0 ∧ HT.sIx ds.length ds.length hi = ds.length then none else some (DV.tup ((ds.drop (HT.sIx ds.length 0 lo)).take (HT.sIx ds.length ds.length hi - HT.sIx ds.length 0 lo)))) = some e := h
      split at h
      · cases h
      · rename_i c
        cases h
        refine .inr (.inl ⟨_, _, rfl, hl.sq, by rw [ra.len]; exact c, fun p hp => ?_⟩)
        rename_i xs
        have t : Lt H al mu.length (upd H p (.tup (cutV xs lo hi))) al mu.length := Lt.new (mu := mu) hp
        have cut : RA K H al mu.length (cutV xs lo hi) ((ds.drop (HT.sIx ds.length 0 lo)).take (HT.sIx ds.length ds.length hi - HT.sIx ds.length 0 lo)) := by
          unfold cutV
          rw [ra.len]
          exact (ra.drop _).take _
        exact k _ _ (s.new hp) t (.tup (.inl ⟨.inl upd_same, s.sep hp, s.nf hp⟩) (cut.mono t))
  | _ => exact .inl (other h)
theorem pd_sl (h : PDE cm X W e fe) (hl : PDO cm X W lo fl) (hh : PDO cm X W hi fh) : PDE cm X W (.Subscript e (.Slice lo hi none p2) pos) (eSl fe fl fh) := by
  obtain ⟨te, pe, se⟩ := h.ex
  obtain ⟨tl, pl, sl⟩ := hl.ex
  obtain ⟨th, ph, sh⟩ := hh.ex
  refine ⟨_, pe_slice (sl_list.or (sl_tup.or sl_str)) pe pl ph, fun sg H al dl mu s sld Q q => ?_⟩
  refine snd_bind (R1 := fun x H1 => tl sg H1 fun l H2 => th sg H2 fun u H3 => rSlAny X.K x l u H3 Q) se s sld rfl q fun d m1 v H1 al1 s1 t1 sl1 r1 h1 => ?_
  refine sl sg H1 al1 dl m1 s1 sl1 _ ?_
  have h1 : OOk X.K cm H1 al1 m1.length ((fl dl m1).bind fun l m2 => match partOf l with | some lo => (fh dl m2).bind fun h m3 => (match partOf h with | some hi => lift (gSl d lo hi m3) m3 | none => .bad) | none => .bad) Q _ := h1
  cases e2 : fl dl m1 with
  | bad => rw [e2] at h1; exact h1
  | exc z m2 => rw [e2] at h1; exact h1
  | ok l m2 =>
    rw [e2] at h1
    refine fun v2 H2 al2 s2 t2 r2 => ?_
    have h2 : OOk X.K cm H2 al2 m2.length (match partOf l with | some lo => (fh dl m2).bind fun h m3 => (match partOf h with | some hi => lift (gSl d lo hi m3) m3 | none => .bad) | none => .bad) Q _ := OOk.later t2 h1
    have key : ∀ o : Option Int, partOf l = some o → th sg H2 fun u H3 => rSlAny X.K v o u H3 Q := fun o eo => by
      rw [eo] at h2
      dsimp only at h2
      refine sh sg H2 al2 dl m2 s2 ((sl1.mono t2)) _ ?_
      cases e3 : fh dl m2 with
      | bad => rw [e3] at h2; exact h2
      | exc z m3 => rw [e3] at h2; exact h2
      | ok u m3 =>
        rw [e3] at h2
        refine fun v3 H3 al3 s3 t3 r3 => ?_
        have h3 : OOk X.K cm H3 al3 m3.length (match partOf u with | some hi => lift (gSl d o hi m3) m3 | none => .bad) Q _ := OOk.later t3 h2
        have fin : ∀ o2 : Option Int, partOf u = some o2 → rSlAny X.K v o o2 H3 Q := fun o2 eo2 => by
          rw [eo2] at h3
          dsimp only at h3
          cases eg : gSl d o o2 m3 with
          | none => rw [eg] at h3; exact h3.elim
          | some dd =>
            rw [eg] at h3
            exact sl_ok s3 ((r1.mono t2).mono t3) eg fun v H' s' t' r' => h3 v H' al3 s' t' r'
        cases u with
        | non => cases r3; exact ⟨none, fin none rfl, rfl⟩
        | int j => cases r3; exact ⟨some j, fin (some j) rfl, rfl⟩
        | _ => exact h3.elim
    cases l with
    | non => cases r2; exact ⟨none, key none rfl, rfl⟩
    | int j => cases r2; exact ⟨some j, key (some j) rfl, rfl⟩
    | _ => exact h2.elim
end
end DM
/-! built-ins by name, defs, calls of defs, the law -/
namespace DM
open PySem PySem.Spec PyProof.Rows L2

theorem evA_len : ∀ {fs : List DE} {dl : Dl} {mu : Mu} {ds : List DV} {m1 : Mu}, evA fs dl mu = .ok ds m1 → ds.length = fs.length
  | [], _, _, _, _, h => by cases h; rfl
  | f :: fs, dl, mu, ds, m1, h => by
    have h : (match f dl mu with | .ok d m1 => (match evA fs dl m1 with | .ok ds m2 => AOut.ok (d :: ds) m2 | .exc e m2 => .exc e m2 | .bad => .bad) | .exc e m1 => .exc e m1 | .bad => .bad) = .ok ds m1 := h
    cases e1 : f dl mu with
    | bad => rw [e1] at h; cases h
    | exc x m => rw [e1] at h; cases h
    | ok d m2 =>
      rw [e1] at h
      dsimp only at h
      cases e2 : evA fs dl m2 with
      | bad => rw [e2] at h; cases h
      | exc x m => rw [e2] at h; cases h
      | ok ds2 m3 =>
        rw [e2] at h
        cases h
        exact congrArg (· + 1) (evA_len e2)
theorem args_bindL {K : Frag'} {cm : Cm} {W : WX} {t : TA} {fs : List DE} (hA : SndA K cm W t fs) (sg : L2.St) (H : Hp) (al : Al) (dl : Dl) (mu : Mu) (R1 : List V → Hp → Prop) (Q : VK) (E : XK) (k : List DV → Mu → Out) (s : SR K cm H al mu) (sl : SlD K H al mu.length sg dl) (hE : E = (fun c d H' => W c d sg H'))
    (h : OOk K cm H al mu.length (eArgs fs dl mu k) Q E)
    (kont : ∀ ds m1 vs H1 al1, SR K cm H1 al1 m1 → Lt H al mu.length H1 al1 m1.length → SlD K H1 al1 m1.length sg dl → RA K H1 al1 m1.length vs ds → OOk K cm H1 al1 m1.length (k ds m1) Q E → ds.length = fs.length → R1 vs H1) : t sg H R1 := by
  refine hA sg H al dl mu s sl R1 ?_
  have h : OOk K cm H al mu.length ((evA fs dl mu).out k) Q E := h
  cases e : evA fs dl mu with
  | ok ds m1 =>
    rw [e] at h
    exact fun vs H1 al1 s1 t1 r1 => kont ds m1 vs H1 al1 s1 t1 (sl.mono t1) r1 (OOk.later t1 h) (evA_len e)
  | exc x m1 =>
    rw [e] at h
    subst hE
    exact h
  | bad => rw [e] at h; exact h

abbrev GC := List DV → Mu → Option DV
def RC (K : Frag') (cm : Cm) (r : List V → Hp → VK → Prop) (g : GC) : Prop := ∀ (H : Hp) (al : Al) (mu : Mu) (vs : List V) (ds : List DV) (d : DV) (Q : VK), SR K cm H al mu → RA K H al mu.length vs ds → g ds mu = some d →
  (∀ v H', SR K cm H' al mu → Lt H al mu.length H' al mu.length → R K H' al mu.length v d → Q v H') → r vs H Q
def eCB (g : GC) (fs : List DE) : DE := fun dl mu => eArgs fs dl mu fun ds m => lift (g ds m) m
def gLen : GC
  | [.str l], _ => if l.length ≤ 1000000 then some (.int l.length) else none
  | [.tup ds], _ => some (.int ds.length)
  | [d], mu => match lstOf mu d with
    | some ds => some (.int ds.length)
    | none => match d with
      | .obj k => match mu[k]? with
        | some (.dic kvs) => some (.int kvs.length)
        | _ => none
      | _ => none
  | _, _ => none
def gOrd : GC
  | [.str [c]], _ => some (.int c)
  | _, _ => none
def gMax2 : GC
  | [.int i, .int j], _ => some (.int (if j > i then j else i))
  | _, _ => none
def gMin2 : GC
  | [.int i, .int j], _ => some (.int (if j < i then j else i))
  | _, _ => none
def gInt : GC
  | [.int i], _ => some (.int i)
  | [.bl k], _ => some (.int (if k then 1 else 0))
  | _, _ => none
def tyName (mu : Mu) : DV → Option String
  | .non => some "NoneType" | .bl _ => some "bool" | .int _ => some "int" | .str _ => some "str" | .lst _ => some "list" | .tup _ => some "tuple" | .ty _ => none
  | .obj k => match mu[k]? with
    | some (.lst _) => some "list"
    | some (.dic _) => some "dict"
    | _ => none
/-- a is b or beneath it -/
def subTy (a b : String) : Option Bool :=
  if ["NoneType", "bool", "int", "str", "list", "tuple", "dict"].contains a && ["bool", "int", "str", "list", "tuple", "dict"].contains b then some (a == b || (a == "bool" && b == "int")) else none
def gIsi : GC
  | [d, .ty b], mu => (tyName mu d).bind fun a => (subTy a b).map .bl
  | _, _ => none
def gList : GC
  | [.tup ds], _ => some (.lst ds)
  | [d], mu => (lstOf mu d).map .lst
  | _, _ => none
section
variable {K : Frag'} {cm : Cm} {X : Cx} {W : WX} {pos p apos : Pos} {e o : Expr} {es : List Expr} {fs : List DE} {fo fe : DE} {g : GC} {r : List V → Hp → VK → Prop} {ta : TA} {x : Str} {id T : String} {H : Hp} {al : Al} {mu : Mu} {n : Nat}
theorem snd_cb (hr : RC K cm r g) (ha : SndA K cm W ta fs) : SndE K cm W (tCB r ta) (eCB g fs) := fun sg H al dl mu s sl Q q =>
  args_bind (R1 := fun vs H1 => r vs H1 Q) ha sg H al dl mu Q _ _ s sl rfl q fun ds m1 vs H1 al1 s1 t1 sl1 r1 h1 => by
    cases eg : g ds m1 with
    | none => rw [eg] at h1; exact h1.elim
    | some d =>
      rw [eg] at h1
      exact hr H1 al1 m1 vs ds d Q s1 r1 eg fun v H' s' t' r' => h1 v H' al1 s' t' r'
theorem pd_cb (hc : CallR X (.builtin id) r) (hr : RC X.K cm r g) (hg : Gl X x) (hm : X.mg x = none) (hv : bootBuiltins x = some (.builtin id)) (ha : PDA cm X W (e :: es) fs) (hn : x ≠ "__name__" := by decide) (hdb : (x == ("__debug__" : Str)) = false := by decide)
    (he : starEach (e :: es) X.env = (false, eval e X.env) :: starEach es X.env := by rfl) (hpl : (backTo pos (starEach es X.env)).any (·.1) = false := by rfl) : PDE cm X W (.Call (.Name x p) (e :: es) [] pos) (eCB g fs) := by
  obtain ⟨_, pa, sa⟩ := ha.ex
  exact ⟨_, pe_callB hc hg hm hv pa hn hdb he hpl, snd_cb hr sa⟩
theorem pd_cty (hc : CallR X (.type T) r) (hr : RC X.K cm r g) (hg : Gl X x) (hm : X.mg x = none) (hv : bootBuiltins x = some (.type T)) (ha : PDA cm X W (e :: es) fs) (hn : x ≠ "__name__" := by decide) (hdb : (x == ("__debug__" : Str)) = false := by decide)
    (he : starEach (e :: es) X.env = (false, eval e X.env) :: starEach es X.env := by rfl) (hpl : (backTo pos (starEach es X.env)).any (·.1) = false := by rfl) : PDE cm X W (.Call (.Name x p) (e :: es) [] pos) (eCB g fs) := by
  obtain ⟨_, pa, sa⟩ := ha.ex
  exact ⟨_, pe_callTy hc hg hm hv pa hn hdb he hpl, snd_cb hr sa⟩
theorem RC_or {r' : List V → Hp → VK → Prop} {g1 g2 : GC} (h : RC K cm r g1) (h' : RC K cm r' g2) (he : ∀ ds m d, g ds m = some d → g1 ds m = some d ∨ g2 ds m = some d) : RC K cm (fun xs H Q => r xs H Q ∨ r' xs H Q) g := fun H al mu vs ds d Q s ra q k =>
  (he ds mu d q).elim (fun z => .inl (h H al mu vs ds d Q s ra z k)) (fun z => .inr (h' H al mu vs ds d Q s ra z k))
theorem RA.one {vs : List V} {d : DV} (r : RA K H al n vs [d]) : ∃ v, vs = [v] ∧ R K H al n v d := by
  cases r with
  | cons r q => cases q; exact ⟨_, rfl, r⟩
theorem RA.two {vs : List V} {d e : DV} (r : RA K H al n vs [d, e]) : ∃ v w, vs = [v, w] ∧ R K H al n v d ∧ R K H al n w e := by
  cases r with
  | cons r q =>
    cases q with
    | cons r2 q => cases q; exact ⟨_, _, rfl, r, r2⟩
def rLenD : List V → Hp → VK → Prop := fun xs H Q => ∃ a kvs, xs = [V.ref a] ∧ H a = some (.dK kvs) ∧ Q (.int kvs.length) H
theorem RK.len {κ : Type} : ∀ {vs : List (κ × V)} {ds : List (κ × DV)}, RK K H al n vs ds → vs.length = ds.length
  | _, _, .nil => rfl
  | _, _, .cons _ q => congrArg (· + 1) (RK.len q)
theorem rc_len : RC K cm (fun xs H Q => (∃ x n, xs = [x] ∧ LenV K x H n ∧ Q (.int n) H) ∨ rLenD xs H Q) gLen := fun H al mu vs ds d Q s ra e k => by
  have other : ∀ c : DV, RA K H al mu.length vs [c] → (match lstOf mu c with | some ds => some (DV.int ds.length) | none => match c with | .obj k => (match mu[k]? with | some (.dic kvs) => some (.int kvs.length) | _ => none) | _ => none) = some d → (∃ x n, vs = [x] ∧ LenV K x H n ∧ Q (.int n) H) ∨ rLenD vs H Q := fun c ra e => by
    obtain ⟨v, rfl, r⟩ := ra.one
    cases el : lstOf mu c with
    | some es =>
      rw [el] at e
      cases e
      obtain ⟨a, xs, rfl, h1, h2⟩ := lst_of s r el
      exact .inl ⟨_, es.length, rfl, .inl ⟨xs, h1, h2.len.symm⟩, k _ H s Lt.refl (.int _)⟩
    | none =>
      rw [el] at e
      cases c <;> try (cases e; done)
      rename_i k'
      have e : (match mu[k']? with | some (.dic kvs) => some (DV.int kvs.length) | _ => none) = some d := e
      cases em : mu[k']? with
      | none => rw [em] at e; cases e
      | some m =>
        cases m with
        | lst _ => rw [em] at e; cases e
        | ins _ _ => rw [em] at e; cases e
        | dic kvs =>
          rw [em] at e
          cases e
          cases r
          obtain ⟨ws, h1, h2⟩ := s.ob k' _ em
          refine .inr ⟨_, ws, rfl, h1, ?_⟩
          rw [h2.len]
          exact k _ H s Lt.refl (.int _)
  match ds, ra, e with
  | [.str l], ra, e =>
    obtain ⟨v, rfl, r⟩ := ra.one
    cases r
    have e : (if l.length ≤ 1000000 then some (DV.int l.length) else none) = some d := e
    by_cases c : l.length ≤ 1000000
    · rw [if_pos c] at e
      cases e
      exact .inl ⟨_, l.length, rfl, ⟨line_big (by rw [SX.S_len]; exact c), (SX.S_len l).symm⟩, k _ H s Lt.refl (.int _)⟩
    · rw [if_neg c] at e
      cases e
  | [.tup es], ra, e =>
    obtain ⟨v, rfl, r⟩ := ra.one
    cases r with
    | tup hl rr =>
      cases e
      exact .inl ⟨_, es.length, rfl, .inr ⟨_, hl.sq, rr.len.symm⟩, k _ H s Lt.refl (.int _)⟩
  | [.non], ra, e => exact other _ ra e
  | [.bl _], ra, e => exact other _ ra e
  | [.int _], ra, e => exact other _ ra e
  | [.ty _], ra, e => exact other _ ra e
  | [.lst _], ra, e => exact other _ ra e
  | [.obj _], ra, e => exact other _ ra e
theorem pd_len (hg : Gl X "len") (hm : X.mg "len" = none) (ha : PDA cm X W [e] fs) (he : starEach [e] X.env = (false, eval e X.env) :: starEach [] X.env := by rfl) (hpl : (backTo pos (starEach [] X.env)).any (·.1) = false := by rfl) : PDE cm X W (.Call (.Name "len" p) [e] [] pos) (eCB gLen fs) :=
  pd_cb (CallR.or call_len call_lenD) rc_len hg hm boot_len ha (by decide) (by decide) he hpl
theorem rc_ord : RC K cm (fun xs H Q => ∃ x, xs = [.str x] ∧ x.length = 1 ∧ Q (.int (x.cps.getD 0 0 : Nat)) H) gOrd := fun H al mu vs ds d Q s ra e k => by
  match ds, ra, e with
  | [.str [c]], ra, e =>
    obtain ⟨v, rfl, r⟩ := ra.one
    cases r
    cases e
    exact ⟨_, rfl, rfl, k _ H s Lt.refl (.int _)⟩
theorem pd_ord (hg : Gl X "ord") (hm : X.mg "ord" = none) (ha : PDA cm X W [e] fs) (he : starEach [e] X.env = (false, eval e X.env) :: starEach [] X.env := by rfl) (hpl : (backTo pos (starEach [] X.env)).any (·.1) = false := by rfl) : PDE cm X W (.Call (.Name "ord" p) [e] [] pos) (eCB gOrd fs) :=
  pd_cb call_ord rc_ord hg hm PyProof.Rows.boot_ord ha (by decide) (by decide) he hpl
theorem rc_max2 : RC K cm (fun xs H Q => ∃ i j, xs = [.int i, .int j] ∧ Q (.int (if j > i then j else i)) H) gMax2 := fun H al mu vs ds d Q s ra e k => by
  match ds, ra, e with
  | [.int i, .int j], ra, e =>
    obtain ⟨v, w, rfl, r1, r2⟩ := ra.two
    cases r1; cases r2; cases e
    exact ⟨_, _, rfl, k _ H s Lt.refl (.int _)⟩
theorem rc_min2 : RC K cm (fun xs H Q => ∃ i j, xs = [.int i, .int j] ∧ Q (.int (if j < i then j else i)) H) gMin2 := fun H al mu vs ds d Q s ra e k => by
  match ds, ra, e with
  | [.int i, .int j], ra, e =>
    obtain ⟨v, w, rfl, r1, r2⟩ := ra.two
    cases r1; cases r2; cases e
    exact ⟨_, _, rfl, k _ H s Lt.refl (.int _)⟩
theorem pd_max2 {e2 : Expr} (hc : X.calm = true) (hg : Gl X "max") (hm : X.mg "max" = none) (ha : PDA cm X W [e, e2] fs) (he : starEach [e, e2] X.env = (false, eval e X.env) :: starEach [e2] X.env := by rfl) (hpl : (backTo pos (starEach [e2] X.env)).any (·.1) = false := by rfl) : PDE cm X W (.Call (.Name "max" p) [e, e2] [] pos) (eCB gMax2 fs) :=
  pd_cb (call_max2 hc) rc_max2 hg hm boot_max ha (by decide) (by decide) he hpl
theorem pd_min2 {e2 : Expr} (hc : X.calm = true) (hg : Gl X "min") (hm : X.mg "min" = none) (ha : PDA cm X W [e, e2] fs) (he : starEach [e, e2] X.env = (false, eval e X.env) :: starEach [e2] X.env := by rfl) (hpl : (backTo pos (starEach [e2] X.env)).any (·.1) = false := by rfl) : PDE cm X W (.Call (.Name "min" p) [e, e2] [] pos) (eCB gMin2 fs) :=
  pd_cb (call_min2 hc) rc_min2 hg hm boot_min ha (by decide) (by decide) he hpl
theorem rc_int : RC K cm (fun xs H Q => (∃ i, xs = [.int i] ∧ Q (.int i) H) ∨ ∃ k, xs = [.bl k] ∧ Q (.int (if k then 1 else 0)) H) gInt := fun H al mu vs ds d Q s ra e k => by
  match ds, ra, e with
  | [.int i], ra, e =>
    obtain ⟨v, rfl, r1⟩ := ra.one
    cases r1; cases e
    exact .inl ⟨_, rfl, k _ H s Lt.refl (.int _)⟩
  | [.bl i], ra, e =>
    obtain ⟨v, rfl, r1⟩ := ra.one
    cases r1; cases e
    exact .inr ⟨_, rfl, k _ H s Lt.refl (.int _)⟩
theorem pd_intc (hg : Gl X "int") (hm : X.mg "int" = none) (ha : PDA cm X W [e] fs) (he : starEach [e] X.env = (false, eval e X.env) :: starEach [] X.env := by rfl) (hpl : (backTo pos (starEach [] X.env)).any (·.1) = false := by rfl) : PDE cm X W (.Call (.Name "int" p) [e] [] pos) (eCB gInt fs) :=
  pd_cty call_int1 rc_int hg hm (by decide +kernel) ha (by decide) (by decide) he hpl
/-! isinstance by a built-in type -/
theorem subTy_ok {a b : String} {c : Bool} (h : subTy a b = some c) : kitB a b = some c := by
  unfold subTy at h
  split at h
  · rename_i hh
    rw [Bool.and_eq_true] at hh
    have h1 : a ∈ ["NoneType", "bool", "int", "str", "list", "tuple", "dict"] := List.contains_iff_mem.mp hh.1
    have h2 : b ∈ ["bool", "int", "str", "list", "tuple", "dict"] := List.contains_iff_mem.mp hh.2
    simp only [List.mem_cons, List.not_mem_nil, or_false] at h1 h2
    rcases h1 with rfl | rfl | rfl | rfl | rfl | rfl | rfl <;> rcases h2 with rfl | rfl | rfl | rfl | rfl | rfl <;> (cases h; decide +kernel)
  · cases h
theorem ty_of {v : V} {d : DV} {a : String} (s : SR K cm H al mu) (r : R K H al mu.length v d) (h : tyName mu d = some a) : TyX K H v (.type a) := by
  cases r with
  | non => cases h; exact .base .non
  | bl b => cases h; exact .base (.bl b)
  | int b => cases h; exact .base (.int b)
  | str b => cases h; exact .base (.str _)
  | ty b => cases h
  | lst hl ra =>
    cases h
    rcases hl with ⟨hl | ⟨o, hl⟩, _⟩ | (hl | ⟨o, hl⟩) | ⟨o, its, n, h1, h2, _⟩
    · exact .base (.lst hl)
    · exact .base (.frz hl)
    · cases hl
    · cases hl
    · exact .kList h1 h2
  | tup hl ra =>
    cases h
    rcases hl with ⟨hl | ⟨o, hl⟩, _⟩ | (hl | ⟨o, hl⟩) | ⟨o, its, n, h1, h2, _⟩
    · exact .base (.tup hl)
    · exact .fTuple hl
    · cases hl
    · cases hl
    · exact .kTuple h1 h2
  | @obj k hk =>
    have h : (match mu[k]? with | some (.lst _) => some "list" | some (.dic _) => some "dict" | _ => none) = some a := h
    cases em : mu[k]? with
    | none => rw [em] at h; cases h
    | some m =>
      rw [em] at h
      have z := s.ob k _ em
      cases m with
      | lst ds => cases h; obtain ⟨xs, h1, _⟩ := z; exact .base (.lst h1)
      | dic ds => cases h; obtain ⟨xs, h1, _⟩ := z; exact .base (.dK h1)
      | ins _ _ => cases h
theorem rc_isi : RC K cm (rIsi K) gIsi := fun H al mu vs ds d Q s ra e k => by
  match ds, ra, e with
  | [c, .ty b], ra, e =>
    obtain ⟨v, w, rfl, r1, r2⟩ := ra.two
    cases r2
    have e : ((tyName mu c).bind fun a => (subTy a b).map DV.bl) = some d := e
    cases e1 : tyName mu c with
    | none => rw [e1] at e; cases e
    | some a =>
      rw [e1] at e
      have e : (subTy a b).map DV.bl = some d := e
      cases e2 : subTy a b with
      | none => rw [e2] at e; cases e
      | some q =>
        rw [e2] at e
        cases e
        exact ⟨v, .ty b, .type a, .type b, q, rfl, .ty b, ty_of s r1 e1, kit_ty (subTy_ok e2), k _ H s Lt.refl (.bl q)⟩
theorem pd_isi {e2 : Expr} (hg : Gl X "isinstance") (hm : X.mg "isinstance" = none) (ha : PDA cm X W [e, e2] fs) (he : starEach [e, e2] X.env = (false, eval e X.env) :: starEach [e2] X.env := by rfl) (hpl : (backTo pos (starEach [e2] X.env)).any (·.1) = false := by rfl) : PDE cm X W (.Call (.Name "isinstance" p) [e, e2] [] pos) (eCB gIsi fs) :=
  pd_cb call_isi rc_isi hg hm PyProof.Rows.boot_isinstance ha (by decide) (by decide) he hpl
/-! list(..) -/
theorem rc_list : RC K cm (fun xs H Q => ∃ p ys, xs = [.ref p] ∧ (SqL K H p ys ∨ SqT K H p ys) ∧ ∀ l, H l = none → Q (.ref l) (upd H l (.lst ys))) gList := fun H al mu vs ds d Q s ra e k => by
  have fin : ∀ {p : Addr} {ys : List V} {es : List DV}, RA K H al mu.length ys es → d = .lst es → (∀ l, H l = none → Q (.ref l) (upd H l (.lst ys))) := fun {p ys es} rr ed l hl => by
    subst ed
    have t : Lt H al mu.length (upd H l (.lst ys)) al mu.length := Lt.new (mu := mu) hl
    exact k _ _ (s.new hl) t (.lst (.inl ⟨.inl upd_same, s.sep hl, s.nf hl⟩) (rr.mono t))
  have other : ∀ c : DV, RA K H al mu.length vs [c] → (lstOf mu c).map DV.lst = some d → ∃ p ys, vs = [.ref p] ∧ (SqL K H p ys ∨ SqT K H p ys) ∧ ∀ l, H l = none → Q (.ref l) (upd H l (.lst ys)) := fun c ra e => by
    obtain ⟨v, rfl, r⟩ := ra.one
    cases el : lstOf mu c with
    | none => rw [el] at e; cases e
    | some es =>
      rw [el] at e
      obtain ⟨a, xs, rfl, h1, h2⟩ := lst_of s r el
      exact ⟨a, xs, rfl, .inl h1, fin (p := a) h2 (Option.some.inj e).symm⟩
  match ds, ra, e with
  | [.tup es], ra, e =>
    obtain ⟨v, rfl, r⟩ := ra.one
    cases r with
    | tup hl rr => exact ⟨_, _, rfl, .inr hl.sq, fin (p := 0) rr (Option.some.inj e).symm⟩
  | [.non], ra, e => exact other _ ra e
  | [.bl _], ra, e => exact other _ ra e
  | [.int _], ra, e => exact other _ ra e
  | [.str _], ra, e => exact other _ ra e
  | [.ty _], ra, e => exact other _ ra e
  | [.lst _], ra, e => exact other _ ra e
  | [.obj _], ra, e => exact other _ ra e
theorem pd_list (hg : Gl X "list") (hm : X.mg "list" = none) (ha : PDA cm X W [e] fs) (he : starEach [e] X.env = (false, eval e X.env) :: starEach [] X.env := by rfl) (hpl : (backTo pos (starEach [] X.env)).any (·.1) = false := by rfl) : PDE cm X W (.Call (.Name "list" p) [e] [] pos) (eCB gList fs) :=
  pd_cty call_list_of rc_list hg hm (by decide +kernel) ha (by decide) (by decide) he hpl
/-! sep.join(..) -/
def strsOf : List DV → Option (List (List Nat))
  | [] => some []
  | .str l :: r => (strsOf r).map (l :: ·)
  | _ => none
def gJoin : G2 := fun x y mu => match x with
  | .str a => (match (match y with | .tup ds => some ds | y => lstOf mu y) with
    | some ds => match strsOf ds with
      | some ls => if (ls.map (·.length)).sum + ls.length * a.length ≤ 1000000 then some (.str (TL.joinL a ls)) else none
      | none => none
    | none => none)
  | _ => none
theorem strs_RA : ∀ {vs : List V} {ds : List DV} {ls : List (List Nat)}, RA K H al n vs ds → strsOf ds = some ls → vs = (ls.map Sx).map V.str
  | _, _, _, .nil, e => by cases e; rfl
  | _, _, ls, .cons (d := d) (ds := ds) r q, e => by
    cases d <;> try (cases e; done)
    cases r
    rename_i l
    have e : (strsOf ds).map (l :: ·) = some ls := e
    cases e1 : strsOf ds with
    | none => rw [e1] at e; cases e
    | some l2 =>
      rw [e1] at e
      cases e
      rw [strs_RA q e1]
      rfl
def rJoin (K : Frag') : R2 := fun x y H Q => (∃ a, x = .str a) ∧ ∃ a p, ∃ ys : List Str, x = .str a ∧ [y] = [.ref p] ∧ (SqL K H p (ys.map V.str) ∨ SqT K H p (ys.map V.str)) ∧ (ys.map (·.length)).sum + ys.length * a.length ≤ 16777216 ∧ Q (.str (Txt.join a ys)) H
theorem rs_join : RS K cm (rJoin K) gJoin := fun H al mu x y dx dy d Q s r1 r2 e k => by
  cases dx <;> try (cases e; done)
  rename_i a
  cases r1
  have e : (match (match dy with | .tup ds => some ds | y => lstOf mu y) with | some ds => (match strsOf ds with | some ls => if (ls.map (·.length)).sum + ls.length * a.length ≤ 1000000 then some (DV.str (TL.joinL a ls)) else none | none => none) | none => none) = some d := e
  cases e1 : (match dy with | .tup ds => some ds | y => lstOf mu y) with
  | none => rw [e1] at e; cases e
  | some ds =>
    rw [e1] at e
    dsimp only at e
    cases e2 : strsOf ds with
    | none => rw [e2] at e; cases e
    | some ls =>
      rw [e2] at e
      dsimp only at e
      by_cases c : (ls.map (·.length)).sum + ls.length * a.length ≤ 1000000
      · rw [if_pos c] at e
        cases e
        have fin : ∀ {p : Addr} {xs : List V}, y = .ref p → (SqL K H p xs ∨ SqT K H p xs) → RA K H al mu.length xs ds → rJoin K (.str (Sx a)) y H Q := fun {p xs} ey hs ra => by
          subst ey
          have ex := strs_RA ra e2
          refine ⟨⟨_, rfl⟩, Sx a, p, ls.map Sx, rfl, rfl, by rw [← ex]; exact hs, ?_, ?_⟩
          · rw [SX.lens, List.length_map, SX.S_len]
            exact Nat.le_trans c (by decide)
          · rw [SX.join_S]
            exact k _ H s Lt.refl (.str _)
        cases dy with
        | tup es =>
          cases e1
          cases r2 with
          | tup hl ra => exact fin rfl (.inr hl.sq) ra
        | _ =>
          obtain ⟨p, xs, ey, h1, h2⟩ := lst_of s r2 e1
          exact fin ey (.inl h1) h2
      · rw [if_neg c] at e
        cases e
theorem snd_op' {r : R2} {g : G2} {ta tb : TE} {P : V → Prop} (hr : RS K cm (fun x y H Q => P x ∧ r x y H Q) g) (ha : SndE K cm W ta fo) (hb : SndE K cm W tb fe) (hP : ∀ x y d m H al n, R K H al n x d → (∃ z, g d y m = some z) → P x) (hf : ∀ d y m, (¬ ∃ a, d = .str a) → g d y m = none) (hPs : ∀ a, P (.str a))
    : SndE K cm W (fun σ H Q => ta σ H fun x H1 => P x ∧ tb σ H1 fun y H2 => r x y H2 Q) (fun dl mu => (fo dl mu).bind fun x m1 => match x with | .str a => (fe dl m1).bind fun y m2 => lift (g (.str a) y m2) m2 | _ => .bad) := fun sg H al dl mu s sl Q h => by
  refine snd_bind (R1 := fun x H1 => P x ∧ tb sg H1 fun y H2 => r x y H2 Q) ha s sl rfl h fun x m1 v1 H1 al1 s1 t1 sl1 r1 h1 => ?_
  cases x <;> try exact h1.elim
  cases r1
  refine ⟨hPs _, ?_⟩
  refine snd_bind (R1 := fun y H2 => r _ y H2 Q) hb s1 sl1 rfl h1 fun y m2 v2 H2 al2 s2 t2 sl2 r2 h2 => ?_
  rename_i a
  cases e : g (.str a) y m2 with
  | none => rw [e] at h2; exact h2.elim
  | some d =>
    rw [e] at h2
    exact (hr H2 al2 m2 _ v2 _ y d Q s2 (.str a) r2 e fun v H' s' t' r' => h2 v H' al2 s' t' r').2
/-- a text's method with one argument -/
def eM1 (g : G2) (fo fe : DE) : DE := fun dl mu => (fo dl mu).bind fun x m1 => match x with | .str a => (fe dl m1).bind fun y m2 => lift (g (.str a) y m2) m2 | _ => .bad
theorem snd_m1 {r : V → List V → Hp → VK → Prop} {g : G2} {to te : TE} (hr : RS K cm (fun x y H Q => (∃ a, x = .str a) ∧ r x [y] H Q) g) (ha : SndE K cm W to fo) (hb : SndE K cm W te fe) : SndE K cm W (tM1 r to te) (eM1 g fo fe) := fun sg H al dl mu s sl Q h => by
  refine snd_bind (R1 := fun x H1 => (∃ a, x = .str a) ∧ te sg H1 fun y H2 => r x [y] H2 Q) ha s sl rfl h fun x m1 v1 H1 al1 s1 t1 sl1 r1 h1 => ?_
  cases x <;> try exact h1.elim
  rename_i a
  cases r1
  refine ⟨⟨_, rfl⟩, ?_⟩
  refine snd_bind (R1 := fun y H2 => r _ [y] H2 Q) hb s1 sl1 rfl h1 fun y m2 v2 H2 al2 s2 t2 sl2 r2 h2 => ?_
  cases e : g (.str a) y m2 with
  | none => rw [e] at h2; exact h2.elim
  | some d =>
    rw [e] at h2
    exact (hr H2 al2 m2 _ v2 _ y d Q s2 (.str a) r2 e fun v H' s' t' r' => h2 v H' al2 s' t' r').2
theorem pd_join (ho : PDE cm X W o fo) (he : PDE cm X W e fe) (hs : starEach [e] X.env = [(false, eval e X.env)] := by rfl) (hbase : attributeBase o "join" X.env (eval o X.env) = eval o X.env := by rfl) (hline : (apos.endLine == pos.line) = true := by rfl) :
    PDE cm X W (.Call (.Attribute o "join" apos) [e] [] pos) (eM1 gJoin fo fe) := by
  obtain ⟨_, p1, s1⟩ := ho.ex
  obtain ⟨_, p2, s2⟩ := he.ex
  exact ⟨_, pe_join p1 p2 hs hbase hline, snd_m1 rs_join s1 s2⟩
end

/-! ### defs -/
abbrev Fn := List DV → Mu → Out
def runF (N m : Nat) (body : DS) : Fn := fun ds mu => if ds.length = m then (match body (startD N ds) mu with
  | .nx _ m => .ok .non m
  | .rt d m => .ok d m
  | .exc e _ m => .exc e m
  | _ => .bad) else .bad
def spF (K : Frag') (cm : Cm) (m : Nat) (F : Fn) : Sp := fun vs H Q E => ∃ al mu ds, SR K cm H al mu ∧ RA K H al mu.length vs ds ∧ ds.length = m ∧ OOk K cm H al mu.length (F ds mu) Q E
/-- a def that may be called by its name: m parameters, the last ones by defaults -/
structure CalD (P : Program) (w : World) (K : Frag') (mg : Str → Option Value) (base : Heap) (cm : Cm) (k : Nat) (x : Str) (m : Nat) (dfl : List DV) (F : Fn) : Prop where
  ex : ∃ (f : Addr) (fd : FuncData) (ps : List Str) (ds : List Value) (dvs : List V), FnOk P w K mg base (L2.CX P w) k f fd ps (spF K cm m F) ∧ mg x = some (.ref f) ∧ PySem.W.keepIn K (.ref f) = true ∧ Binds K fd ps ds ∧ Vals dvs ds ∧ ∀ H al n, RA K H al n dvs dfl
/-- a better known def -/
theorem CalD.to {P : Program} {w : World} {K : Frag'} {mg : Str → Option Value} {base : Heap} {cm : Cm} {k : Nat} {x : Str} {m : Nat} {dfl : List DV} {F G : Fn} (c : CalD P w K mg base cm k x m dfl F)
    (h : ∀ H al mu vs ds Q E, SR K cm H al mu → RA K H al mu.length vs ds → ds.length = m → OOk K cm H al mu.length (G ds mu) Q E → OOk K cm H al mu.length (F ds mu) Q E) : CalD P w K mg base cm k x m dfl G := by
  obtain ⟨f, fd, ps, ds, dvs, F', h1, h2, h3, h4, h5⟩ := c.ex
  exact ⟨f, fd, ps, ds, dvs, F'.imp fun vs H Q E ⟨al, mu, es, s, ra, hl, q⟩ => ⟨al, mu, es, s, ra, hl, h H al mu vs es Q E s ra hl q⟩, h1, h2, h3, h4, h5⟩
/-- .. equal wherever G is not bad -/
theorem CalD.eqv {P : Program} {w : World} {K : Frag'} {mg : Str → Option Value} {base : Heap} {cm : Cm} {k : Nat} {x : Str} {m : Nat} {dfl : List DV} {F G : Fn} (c : CalD P w K mg base cm k x m dfl F)
    (h : ∀ ds mu, ds.length = m → G ds mu ≠ .bad → F ds mu = G ds mu) : CalD P w K mg base cm k x m dfl G := c.to fun H al mu vs ds Q E s ra hl q => by
  by_cases e : G ds mu = .bad
  · rw [e] at q; exact q.elim
  · rw [h ds mu hl e]; exact q
theorem CalD.mono {P : Program} {w : World} {K : Frag'} {mg : Str → Option Value} {base : Heap} {cm : Cm} {j k : Nat} {x : Str} {m : Nat} {dfl : List DV} {F : Fn} (c : CalD P w K mg base cm j x m dfl F) (h : j ≤ k) : CalD P w K mg base cm k x m dfl F := by
  obtain ⟨f, fd, ps, ds, dvs, F', r⟩ := c.ex
  exact ⟨f, fd, ps, ds, dvs, F'.mono h, r⟩
def eCall (F : Fn) (fs : List DE) (dfl : List DV) : DE := fun dl mu => eArgs fs dl mu fun ds m => F (ds ++ dfl) m
section
variable {P : Program} {w : World} {K : Frag'} {mg : Str → Option Value} {base : Heap} {cm : Cm} {X : Cx} {W : WX} {pos p : Pos} {e : Expr} {es : List Expr} {fs : List DE} {F : Fn} {k j m : Nat} {x : Str} {dfl : List DV}
theorem pd_call (c : CalD X.prog X.w X.K X.mg X.base cm k x m dfl F) (tk : Takes X W) (hr : Room j X.A) (hk : k ≤ j) (hg : Gl X x) (ha : PDA cm X W (e :: es) fs) (hl : fs.length + dfl.length = m := by rfl)
    (hdb : (x == ("__debug__" : Str)) = false := by decide) (he : starEach (e :: es) X.env = (false, eval e X.env) :: starEach es X.env := by rfl) (hpl : (backTo pos (starEach es X.env)).any (·.1) = false := by rfl) :
    PDE cm X W (.Call (.Name x p) (e :: es) [] pos) (eCall F fs dfl) := by
  obtain ⟨f, fd, ps, ds, dvs, F', h1, h2, h3, h4, h5⟩ := c.ex
  obtain ⟨ta, pa, sa⟩ := ha.ex
  refine ⟨_, pe_callSD F' (hr.mono hk) hg h1 h2 h3 h4 (fun σ => passAt tk σ) pa hdb he hpl, fun sg H al dl mu s sl Q q => ?_⟩
  refine args_bindL (R1 := fun vs H1 => spF X.K cm m F (vs ++ dvs) H1 Q (WE W sg)) sa sg H al dl mu Q _ _ s sl rfl q fun ds m1 vs H1 al1 s1 t1 sl1 r1 h1 hlen => ?_
  exact ⟨al1, m1, ds ++ dfl, s1, r1.app (h5 H1 al1 _), by rw [List.length_append, hlen]; exact hl, h1⟩
/-! a def keeps its promise -/
theorem fn_ok {qual name : Str} {params : Arguments} {body : List Stmt} {scope : Scope} {dvs : List V} {kws : List (Str × V)} {f : Addr} {fd : FuncData} {N ps : List Str} {b : DS} (Fd : FunD K name qual params body scope dvs kws f fd) (S : FnScope N ps scope) (hm : ps.length = m)
    (hb : ∀ (cdv : Value) (A : Around) (outer : List Env) (s : Shared) (H : Hp) (E : XK), Room k (A.deeper (envOfC qual scope s.heap.objs.size f cdv)) →
      PDB cm (cxOf (L2.CX P w) P w K mg base N qual scope f cdv A outer s H E) (fun cls d _ H => E cls d H) body b) : FnOk P w K mg base (L2.CX P w) (k + 1) f fd ps (spF K cm m (runF N.length m b)) := by
  refine Fd.ok S (fun vs H Q E ⟨al, mu, ds, s, ra, hl, q⟩ => ra.len.trans (hl.trans hm.symm)) (fun cdv A outer s H vs Q E hr ⟨al, mu, ds, sr, ra, hl, q⟩ => ?_)
  obtain ⟨t, p, sn⟩ := (hb cdv A outer s H E hr).ex
  refine ⟨t, p, sn _ H al (startD N.length ds) mu sr (SlD.start ra) _ ?_⟩
  unfold runF at q
  rw [if_pos hl] at q
  cases e : b (startD N.length ds) mu with
  | nx l m1 => rw [e] at q; exact fun sg H1 al1 s1 t1 sl1 => q .non H1 al1 s1 t1 .non
  | rt d m1 => rw [e] at q; exact q
  | exc x l m1 => rw [e] at q; exact fun dd sg H1 al1 s1 t1 sl1 x1 => q dd H1 al1 s1 t1 x1
  | bk l m1 => rw [e] at q; exact q.elim
  | ct l m1 => rw [e] at q; exact q.elim
  | bad => rw [e] at q; exact q.elim
theorem cal_mk {name : Str} {params : Arguments} {body : List Stmt} {scope : Scope} {f : Addr} {fd : FuncData} {N ps : List Str} {b : DS} (Fd : FunD K name name params body scope [] [] f fd) (S : FnScope N ps scope) (hm : ps.length = m) (hg : mg name = some (.ref f)) (hbi : Binds K fd ps [])
    (hb : ∀ (cdv : Value) (A : Around) (outer : List Env) (s : Shared) (H : Hp) (E : XK), Room k (A.deeper (envOfC name scope s.heap.objs.size f cdv)) →
      PDB cm (cxOf (L2.CX P w) P w K mg base N name scope f cdv A outer s H E) (fun cls d _ H => E cls d H) body b) : CalD P w K mg base cm (k + 1) name m [] (runF N.length m b) :=
  ⟨f, fd, ps, [], [], fn_ok Fd S hm hb, hg, Fd.kp, hbi, .nil, fun _ _ _ => .nil⟩
/-- the law: it gives True -/
def lawIn (ns : List Int) : List DV := [.lst (ns.map .int)]
theorem RA_ints {H : Hp} {al : Al} {n : Nat} : ∀ ns : List Int, RA K H al n (ns.map V.int) (ns.map DV.int)
  | [] => .nil
  | i :: ns => .cons (.int i) (RA_ints ns)
/-- the last step: what the law's def promises, at the script -/
theorem law_sp {F : Fn} {a : Addr} {ns : List Int} {H : Hp} (hO : Only H) (hS : SqL K H a (ns.map V.int)) (h : ∃ mu, F (lawIn ns) [] = .ok (.bl true) mu) : spF K cm 1 F [.ref a] H (fun v _ => v = .bl true) (fun _ _ _ => False) := by
  obtain ⟨mu, e⟩ := h
  refine ⟨⟨fun _ => 0, fun _ => False⟩, [], lawIn ns, ⟨fun i j hi => absurd hi (Nat.not_lt_zero _), fun k m hk => by simp at hk, fun a h => h.elim⟩, .cons (.lst ?_ (RA_ints ns)) .nil, rfl, ?_⟩
  · rcases hS with hS | hS
    · exact .inl ⟨hS, fun k hk => absurd hk (Nat.not_lt_zero _), fun h => h⟩
    · exact .inr (.inr hS)
  · rw [e]
    intro v H' al' _ _ r
    cases r
    rfl
end
end DM
/-! chains, tests by operators, the end -/
namespace DM
open PySem PySem.Spec PyProof.Rows L2
def eChain (g g' : G2) (fa fb fc : DE) : DE := fun dl mu => (fa dl mu).bind fun x m1 => (fb dl m1).bind fun y m2 => match g x y m2 with
  | some (.bl true) => (fc dl m2).bind fun z m3 => (match g' y z m3 with
    | some (.bl b) => .ok (.bl b) m3
    | _ => .bad)
  | some (.bl false) => .ok (.bl false) m2
  | _ => .bad
def eNeg (f : DE) : DE := fun dl mu => (f dl mu).bind fun d m => match d with
  | .int i => .ok (.int (-i)) m
  | _ => .bad
section
variable {K : Frag'} {cm : Cm} {X : Cx} {W : WX} {pos : Pos} {a b c : Expr} {fa fb fc : DE} {g g' : G2} {r r' : R2} {ta tb tc : TE}
theorem snd_chain (hr : RS K cm r g) (hr' : RS K cm r' g') (ha : SndE K cm W ta fa) (hb : SndE K cm W tb fb) (hc : SndE K cm W tc fc) : SndE K cm W (tChain r r' ta tb tc) (eChain g g' fa fb fc) := fun sg H al dl mu s sl Q h => by
  refine snd_bind (R1 := fun x H1 => tb sg H1 fun y H2 => r x y H2 fun z H3 => ∃ k, z = .bl k ∧ (if k = true then tc sg H3 fun w' H4 => r' y w' H4 Q else Q (.bl false) H3)) ha s sl rfl h fun x m1 v1 H1 al1 s1 t1 sl1 r1 h1 => ?_
  refine snd_bind (R1 := fun y H2 => r v1 y H2 fun z H3 => ∃ k, z = .bl k ∧ (if k = true then tc sg H3 fun w' H4 => r' y w' H4 Q else Q (.bl false) H3)) hb s1 sl1 rfl h1 fun y m2 v2 H2 al2 s2 t2 sl2 r2 h2 => ?_
  cases e : g x y m2 with
  | none => rw [e] at h2; exact h2.elim
  | some d =>
    rw [e] at h2
    cases d <;> try exact h2.elim
    rename_i k
    refine hr H2 al2 m2 v1 v2 x y _ _ s2 (r1.mono t2) r2 e fun v H' s' t' r3 => ?_
    cases r3
    refine ⟨k, rfl, ?_⟩
    cases k with
    | false => rw [if_neg Bool.false_ne_true]; exact h2 _ H' al2 s' t' (.bl _)
    | true =>
      rw [if_pos rfl]
      refine snd_bind (R1 := fun w' H4 => r' v2 w' H4 Q) hc s' (sl2.mono t') rfl (OOk.later t' h2) fun z m3 v3 H3 al3 s3 t3 sl3 r3 h3 => ?_
      cases e2 : g' y z m3 with
      | none => rw [e2] at h3; exact h3.elim
      | some d2 =>
        rw [e2] at h3
        cases d2 <;> try exact h3.elim
        exact hr' H3 al3 m3 v2 v3 y z _ Q s3 ((r2.mono t').mono t3) r3 e2 fun v H4 s4 t4 r4 => h3 v H4 al3 s4 t4 r4
theorem pd_chain {op op' : CmpOp} (ho : OpR X (compareOp op) r) (hr : RS X.K cm r g) (ho' : OpR X (compareOp op') r') (hr' : RS X.K cm r' g') (ha : PDE cm X W a fa) (hb : PDE cm X W b fb) (hc : PDE cm X W c fc)
    (hm : lastMarks [op, op'] [b, c] = false := by with_unfolding_all rfl) : PDE cm X W (.Compare a [op, op'] [b, c] pos) (eChain g g' fa fb fc) := by
  obtain ⟨_, p1, s1⟩ := ha.ex
  obtain ⟨_, p2, s2⟩ := hb.ex
  obtain ⟨_, p3, s3⟩ := hc.ex
  exact ⟨_, pe_chain ho ho' p1 p2 p3 hm, snd_chain hr hr' s1 s2 s3⟩
theorem pdt_chain {op op' : CmpOp} (ho : OpR X (compareOp op) r) (hr : RS X.K cm r g) (ho' : OpR X (compareOp op') r') (hr' : RS X.K cm r' g') (ha : PDE cm X W a fa) (hb : PDE cm X W b fb) (hc : PDE cm X W c fc)
    (hm : lastMarks [op, op'] [b, c] = false := by with_unfolding_all rfl) : PDT cm X W (.Compare a [op, op'] [b, c] pos) (eB (eChain g g' fa fb fc)) := by
  obtain ⟨_, p1, s1⟩ := ha.ex
  obtain ⟨_, p2, s2⟩ := hb.ex
  obtain ⟨_, p3, s3⟩ := hc.ex
  exact ⟨_, pt_chain ho ho' p1 p2 p3 hm, snd_test (snd_chain hr hr' s1 s2 s3)⟩
theorem pd_neg (ha : PDE cm X W a fa) : PDE cm X W (.UnaryOp .USub a pos) (eNeg fa) := by
  obtain ⟨_, p1, s1⟩ := ha.ex
  refine ⟨_, pe_un un_neg p1, fun sg H al dl mu s sl Q q => ?_⟩
  refine snd_bind (R1 := fun x H1 => ∃ i, x = .int i ∧ Q (.int (-i)) H1) s1 s sl rfl q fun d m1 v H1 al1 s1 t1 sl1 r1 h1 => ?_
  cases d <;> try exact h1.elim
  cases r1
  exact ⟨_, rfl, h1 _ H1 al1 s1 Lt.refl (.int _)⟩
/-! the operators' pairs: what the machine does, what g tells -/
theorem rs_lt : RS K cm (rI0 fun i j => .bl (decide (i < j))) gLt0 := rs_I0 fun _ _ _ _ _ => .bl _
theorem rs_le : RS K cm (rI0 fun i j => .bl (decide (i ≤ j))) gLe := rs_I0 fun _ _ _ _ _ => .bl _
theorem rs_gt : RS K cm (rI0 fun i j => .bl (decide (j < i))) gGt := rs_I0 fun _ _ _ _ _ => .bl _
theorem rs_ge : RS K cm (rI0 fun i j => .bl (decide (j ≤ i))) gGe := rs_I0 fun _ _ _ _ _ => .bl _
end
/-- a promise that wishes for no exception lets none out -/
theorem noexc {P : Program} {w : World} {K : Frag'} {mg : Str → Option Value} {base : Heap} {k : Nat} {f : Addr} {fd : FuncData} {ps : List Str} {sp : Sp} (F : FnOk P w K mg base (L2.CX P w) k f fd ps sp) : FnOk P w K mg base CX0 k f fd ps (fun vs H Q _ => sp vs H Q fun _ _ _ => False) :=
  ⟨fun vs H Q _ h => F.len vs H Q _ h, fun A outer s H args us vs Q E hr he hb hv hs => codeAny_mono (F.run A outer s H args us vs Q _ hr he hb hv hs) fun r s' q => by
    cases r with
    | error e =>
      obtain ⟨_, _, _, _, _, _, _, _, _, _, _, _, z⟩ := q
      exact z.elim
    | ok fl => cases fl <;> exact q⟩
end DM
/-! plain facts of the machine: loops and comprehensions -/
namespace DM
open PySem PySem.Spec PyProof.Rows L2
theorem sSeq_nx {f g : DS} {dl dl1 : Dl} {mu m1 : Mu} (h : f dl mu = .nx dl1 m1) : sSeq f g dl mu = g dl1 m1 := by
  unfold sSeq; rw [h]
theorem sSeq_rt {f g : DS} {dl : Dl} {d : DV} {mu m1 : Mu} (h : f dl mu = .rt d m1) : sSeq f g dl mu = .rt d m1 := by
  unfold sSeq; rw [h]
theorem runF_rt {N m : Nat} {b : DS} {ds : List DV} {mu m1 : Mu} {d : DV} (hl : ds.length = m) (h : b (startD N ds) mu = .rt d m1) : runF N m b ds mu = .ok d m1 := by
  unfold runF; rw [if_pos hl, h]
theorem runF_nx {N m : Nat} {b : DS} {ds : List DV} {mu m1 : Mu} {dl : Dl} (hl : ds.length = m) (h : b (startD N ds) mu = .nx dl m1) : runF N m b ds mu = .ok .non m1 := by
  unfold runF; rw [if_pos hl, h]
/-- a comprehension that keeps every item -/
theorem compL_map {t : Tg} {elt : DE} {dl : Dl} {mu : Mu} {g : DV → DV} : ∀ (xs acc : List DV), (∀ x, x ∈ xs → ∃ dl1, t x dl = some dl1 ∧ elt dl1 mu = .ok (g x) mu) → acc.length + xs.length ≤ 1000000 → compL finL t eYes elt dl xs acc mu = .ok (.lst (acc ++ xs.map g)) mu
  | [], acc, _, _ => by simp [compL, finL]
  | x :: xs, acc, h, hn => by
    obtain ⟨dl1, h1, h2⟩ := h x (.head _)
    simp only [List.length_cons] at hn
    have hl : acc.length < 1000000 := by omega
    have ht : eYes dl1 mu = .ok (.bl true) mu := rfl
    simp only [compL, cStep, h1, h2, ht, hl, if_true]
    rw [compL_map xs (acc ++ [g x]) (fun y hy => h y (.tail _ hy)) (by simp; omega)]
    simp
theorem eComp_map {f : DI} {t : Tg} {elt : DE} {vs : List Nat} {dl : Dl} {mu m1 : Mu} {xs : List DV} {g : DV → DV} (hf : f dl mu = .it xs m1) (h : ∀ x, x ∈ xs → ∃ dl1, t x (wipeD dl vs) = some dl1 ∧ elt dl1 m1 = .ok (g x) m1) (hn : xs.length ≤ 1000000) : eComp f t eYes elt vs dl mu = .ok (.lst (xs.map g)) m1 := by
  unfold eComp eCompG
  rw [hf]
  simpa using compL_map xs [] h (by simpa using hn)
/-- a comprehension with a test -/
theorem compL_filter {t : Tg} {test elt : DE} {dl : Dl} {mu : Mu} {g : DV → DV} {p : DV → Bool} : ∀ (xs acc : List DV), (∀ x, x ∈ xs → ∃ dl1, t x dl = some dl1 ∧ test dl1 mu = .ok (.bl (p x)) mu ∧ (p x = true → elt dl1 mu = .ok (g x) mu)) → acc.length + xs.length ≤ 1000000 → compL finL t test elt dl xs acc mu = .ok (.lst (acc ++ (xs.filter p).map g)) mu
  | [], acc, _, _ => by simp [compL, finL]
  | x :: xs, acc, h, hn => by
    obtain ⟨dl1, h1, h2, h3⟩ := h x (.head _)
    simp only [List.length_cons] at hn
    have hl : acc.length < 1000000 := by omega
    cases e : p x with
    | true =>
      simp only [compL, cStep, h1, h2, h3 e, e, hl, if_true]
      rw [compL_filter xs (acc ++ [g x]) (fun y hy => h y (.tail _ hy)) (by simp; omega)]
      simp [e]
    | false =>
      simp only [compL, cStep, h1, h2, e]
      rw [compL_filter xs acc (fun y hy => h y (.tail _ hy)) (by omega)]
      simp [e]
theorem eComp_filter {f : DI} {t : Tg} {test elt : DE} {vs : List Nat} {dl : Dl} {mu m1 : Mu} {xs : List DV} {g : DV → DV} {p : DV → Bool} (hf : f dl mu = .it xs m1) (h : ∀ x, x ∈ xs → ∃ dl1, t x (wipeD dl vs) = some dl1 ∧ test dl1 m1 = .ok (.bl (p x)) m1 ∧ (p x = true → elt dl1 m1 = .ok (g x) m1)) (hn : xs.length ≤ 1000000) : eComp f t test elt vs dl mu = .ok (.lst ((xs.filter p).map g)) m1 := by
  unfold eComp eCompG
  rw [hf]
  simpa using compL_filter xs [] h (by simpa using hn)
/-- what a loop keeps -/
theorem forL_inv {t : Tg} {body : DS} {I : List DV → Dl → Mu → Prop} (hs : ∀ x xs dl mu, I (x :: xs) dl mu → ∃ dl1, t x dl = some dl1 ∧ ∃ dl2 m2, (body dl1 mu = .nx dl2 m2 ∨ body dl1 mu = .ct dl2 m2) ∧ I xs dl2 m2) : ∀ (xs : List DV) (dl : Dl) (mu : Mu), I xs dl mu → ∃ dl' mu', forL t body xs dl mu = .nx dl' mu' ∧ I [] dl' mu'
  | [], dl, mu, h => ⟨dl, mu, rfl, h⟩
  | x :: xs, dl, mu, h => by
    obtain ⟨dl1, h1, dl2, m2, h2, h3⟩ := hs x xs dl mu h
    obtain ⟨dl', mu', h4, h5⟩ := forL_inv hs xs dl2 m2 h3
    refine ⟨dl', mu', ?_, h5⟩
    rcases h2 with h2 | h2
    · simp only [forL, h1, h2]; exact h4
    · simp only [forL, h1, h2]; exact h4
theorem sFor_inv {f : DI} {t : Tg} {body : DS} {I : List DV → Dl → Mu → Prop} {xs : List DV} {dl : Dl} {mu m1 : Mu} (hf : f dl mu = .it xs m1) (h0 : I xs dl m1) (hs : ∀ x xs dl mu, I (x :: xs) dl mu → ∃ dl1, t x dl = some dl1 ∧ ∃ dl2 m2, (body dl1 mu = .nx dl2 m2 ∨ body dl1 mu = .ct dl2 m2) ∧ I xs dl2 m2) : ∃ dl' mu', sFor f t body dl mu = .nx dl' mu' ∧ I [] dl' mu' := by
  unfold sFor
  rw [hf]
  exact forL_inv hs xs dl m1 h0
theorem strs_map (ls : List (List Nat)) : strsOf (ls.map DV.str) = some ls := by
  induction ls with
  | nil => rfl
  | cons a r ih => simp [strsOf, ih]
theorem gI_pos {C : Int → Int → Prop} [∀ i j, Decidable (C i j)] {f : Int → Int → DV} {i j : Int} {mu : Mu} (h : C i j) : gI C f (.int i) (.int j) mu = some (f i j) := if_pos h
end DM
namespace DM
open PySem PySem.Spec PyProof.Rows L2
/-! big steps: what an expression gives -/
section
variable {dl dl1 dl2 : Dl} {mu m1 m2 m3 m4 : Mu} {d x y z : DV} {ds xs : List DV} {f fa fb fc : DE} {fs : List DE} {g g' : G2} {gc : GC} {i : Nat} {F : Fn} {b c : Bool} {e : Ex} {s t : DS} {tg : Tg}
theorem ev_var (h : dl[i]? = some (some d)) : eVar i dl mu = .ok d mu := by unfold eVar; rw [h]
theorem ev_c : eC d dl mu = .ok d mu := rfl
theorem ev_op (h1 : fa dl mu = .ok x m1) (h2 : fb dl m1 = .ok y m2) (h3 : g x y m2 = some d) : eOp g fa fb dl mu = .ok d m2 := by
  unfold eOp; rw [h1]; show (fb dl m1).bind _ = _; rw [h2]; show lift (g x y m2) m2 = _; rw [h3]; rfl
theorem ev_B (h : f dl mu = .ok (.bl b) m1) : eB f dl mu = .ok (.bl b) m1 := by unfold eB; rw [h]; rfl
theorem ev_not (h : f dl mu = .ok (.bl b) m1) : eNot f dl mu = .ok (.bl (!b)) m1 := by unfold eNot; rw [h]; rfl
theorem ev_and (h1 : fa dl mu = .ok (.bl b) m1) (h2 : b = true → fb dl m1 = .ok (.bl c) m1) : eAnd fa fb dl mu = .ok (.bl (b && c)) m1 := by
  unfold eAnd; rw [h1]
  cases b with
  | true => exact h2 rfl
  | false => rfl
theorem ev_and_t (h1 : fa dl mu = .ok (.bl true) m1) (h2 : fb dl m1 = .ok d m2) : eAnd fa fb dl mu = .ok d m2 := by
  unfold eAnd; rw [h1]; exact h2
theorem ev_and_f (h1 : fa dl mu = .ok (.bl false) m1) : eAnd fa fb dl mu = .ok (.bl false) m1 := by
  unfold eAnd; rw [h1]; rfl
theorem ev_or (h1 : fa dl mu = .ok (.bl b) m1) (h2 : b = false → fb dl m1 = .ok (.bl c) m1) : eOr fa fb dl mu = .ok (.bl (b || c)) m1 := by
  unfold eOr; rw [h1]
  cases b with
  | false => exact h2 rfl
  | true => rfl
theorem ev_or_f (h1 : fa dl mu = .ok (.bl false) m1) (h2 : fb dl m1 = .ok d m2) : eOr fa fb dl mu = .ok d m2 := by
  unfold eOr; rw [h1]; exact h2
theorem ev_or_t (h1 : fa dl mu = .ok (.bl true) m1) : eOr fa fb dl mu = .ok (.bl true) m1 := by
  unfold eOr; rw [h1]; rfl
theorem ev_if_t (h1 : fc dl mu = .ok (.bl true) m1) (h2 : fa dl m1 = .ok d m2) : eIf fc fa fb dl mu = .ok d m2 := by
  unfold eIf; rw [h1]; exact h2
theorem ev_if_f (h1 : fc dl mu = .ok (.bl false) m1) (h2 : fb dl m1 = .ok d m2) : eIf fc fa fb dl mu = .ok d m2 := by
  unfold eIf; rw [h1]; exact h2
theorem ev_tru (h1 : f dl mu = .ok d m1) (h2 : truth m1 d = some b) : eTru f dl mu = .ok (.bl b) m1 := by
  unfold eTru; rw [h1]; show (match truth m1 d with | some b => Out.ok (.bl b) m1 | none => .bad) = _; rw [h2]
theorem ev_neg (h1 : f dl mu = .ok (.int j) m1) : eNeg f dl mu = .ok (.int (-j)) m1 := by
  unfold eNeg; rw [h1]; rfl
theorem ea_nil : evA [] dl mu = .ok [] mu := rfl
theorem ea_cons (h1 : f dl mu = .ok d m1) (h2 : evA fs dl m1 = .ok ds m2) : evA (f :: fs) dl mu = .ok (d :: ds) m2 := by
  unfold evA; rw [h1]; show (match evA fs dl m1 with | .ok ds m2 => AOut.ok (d :: ds) m2 | .exc e m2 => .exc e m2 | .bad => .bad) = _; rw [h2]
theorem ev_args {k : List DV → Mu → Out} (h1 : evA fs dl mu = .ok ds m1) : eArgs fs dl mu k = k ds m1 := by
  unfold eArgs; rw [h1]; rfl
theorem ev_cb (h1 : evA fs dl mu = .ok ds m1) (h2 : gc ds m1 = some d) : eCB gc fs dl mu = .ok d m1 := by
  unfold eCB; rw [ev_args h1, h2]; rfl
theorem ev_call {dfl : List DV} (h1 : evA fs dl mu = .ok ds m1) (h2 : F (ds ++ dfl) m1 = .ok d m2) : eCall F fs dfl dl mu = .ok d m2 := by
  unfold eCall; rw [ev_args h1, h2]
theorem ev_call0 (h1 : evA fs dl mu = .ok ds m1) (h2 : F ds m1 = .ok d m2) : eCall F fs [] dl mu = .ok d m2 := ev_call h1 (by rw [List.append_nil]; exact h2)
theorem ev_callx {dfl : List DV} (h1 : evA fs dl mu = .ok ds m1) (h2 : F (ds ++ dfl) m1 = .exc e m2) : eCall F fs dfl dl mu = .exc e m2 := by
  unfold eCall; rw [ev_args h1, h2]
theorem ev_tup (h1 : evA fs dl mu = .ok ds m1) (h2 : ds.length ≤ 1000000) : eTup fs dl mu = .ok (.tup ds) m1 := by
  unfold eTup; rw [ev_args h1, if_pos h2]
theorem ev_lst (h1 : evA fs dl mu = .ok ds m1) (h2 : ds.length ≤ 1000000) : eLst fs dl mu = .ok (.lst ds) m1 := by
  unfold eLst; rw [ev_args h1, if_pos h2]
theorem ev_lstM (h1 : evA fs dl mu = .ok ds m1) (h2 : ds.length ≤ 1000000) : eLstM fs dl mu = .ok (.obj m1.length) (m1 ++ [.lst ds]) := by
  unfold eLstM; rw [ev_args h1, if_pos h2]
theorem ev_I {j : Int} (h1 : f dl mu = .ok (.int j) m1) : eI f dl mu = .ok (.int j) m1 := by
  unfold eI; rw [h1]; rfl
theorem ev_sl {lo hi : Option Int} (h1 : fa dl mu = .ok d m1) (h2 : fb dl m1 = .ok x m2) (h3 : fc dl m2 = .ok y m3) (h4 : partOf x = some lo) (h5 : partOf y = some hi) (h6 : gSl d lo hi m3 = some z) : eSl fa fb fc dl mu = .ok z m3 := by
  unfold eSl; rw [h1]; show (fb dl m1).bind _ = _; rw [h2]
  show (match partOf x with | some lo => (fc dl m2).bind _ | none => .bad) = _
  rw [h4]; show (fc dl m2).bind _ = _; rw [h3]
  show (match partOf y with | some hi => lift (gSl d lo hi m3) m3 | none => .bad) = _
  rw [h5]; show lift (gSl d lo hi m3) m3 = _; rw [h6]; rfl
theorem ev_m1 {a : List Nat} (h1 : fa dl mu = .ok (.str a) m1) (h2 : fb dl m1 = .ok y m2) (h3 : g (.str a) y m2 = some d) : eM1 g fa fb dl mu = .ok d m2 := by
  unfold eM1; rw [h1]; show (fb dl m1).bind _ = _; rw [h2]; show lift (g (.str a) y m2) m2 = _; rw [h3]; rfl
theorem ev_chain_t (h1 : fa dl mu = .ok x m1) (h2 : fb dl m1 = .ok y m2) (h3 : g x y m2 = some (.bl true)) (h4 : fc dl m2 = .ok z m3) (h5 : g' y z m3 = some (.bl b)) : eChain g g' fa fb fc dl mu = .ok (.bl b) m3 := by
  unfold eChain; rw [h1]; show (fb dl m1).bind _ = _; rw [h2]
  simp only [Out.bind, h3, h4, h5, lift]
theorem ev_chain_f (h1 : fa dl mu = .ok x m1) (h2 : fb dl m1 = .ok y m2) (h3 : g x y m2 = some (.bl false)) : eChain g g' fa fb fc dl mu = .ok (.bl false) m2 := by
  unfold eChain; rw [h1]; show (fb dl m1).bind _ = _; rw [h2]
  simp only [Out.bind, h3]
/-! what a statement does -/
theorem es_seq (h1 : s dl mu = .nx dl1 m1) {o : SOut} (h2 : t dl1 m1 = o) : sSeq s t dl mu = o := (sSeq_nx h1).trans h2
theorem es_rt (h1 : s dl mu = .rt d m1) : sSeq s t dl mu = .rt d m1 := sSeq_rt h1
theorem es_set (h1 : f dl mu = .ok d m1) : sSet i f dl mu = .nx (dl.set i (some d)) m1 := by unfold sSet; rw [h1]; rfl
theorem es_drop (h1 : f dl mu = .ok d m1) : sDrop f dl mu = .nx dl m1 := by unfold sDrop; rw [h1]; rfl
theorem es_ret (h1 : f dl mu = .ok d m1) : sRet f dl mu = .rt d m1 := by unfold sRet; rw [h1]; rfl
theorem es_asg (h1 : f dl mu = .ok d m1) (h2 : tg d dl = some dl1) : sAsg tg f dl mu = .nx dl1 m1 := by
  unfold sAsg; rw [h1]; show (match tg d dl with | some dl1 => SOut.nx dl1 m1 | none => .bad) = _; rw [h2]
theorem es_if_t (h1 : f dl mu = .ok (.bl true) m1) {o : SOut} (h2 : s dl m1 = o) : sIf f s t dl mu = o := by unfold sIf; rw [h1]; exact h2
theorem es_if_f (h1 : f dl mu = .ok (.bl false) m1) {o : SOut} (h2 : t dl m1 = o) : sIf f s t dl mu = o := by unfold sIf; rw [h1]; exact h2
theorem es_nx : sNext dl mu = .nx dl mu := rfl
theorem it_seq {o : IOut} (h1 : f dl mu = .ok d m1) (h2 : itOf d m1 = o) : iSeq f dl mu = o := by unfold iSeq; rw [h1]; exact h2
theorem it_rng {j : Int} (h1 : evA fs dl mu = .ok [.int j] m1) (h2 : -4611686018427387904 ≤ j ∧ j < 4611686018427387904) : iRngA fs dl mu = .it ((List.range j.toNat).map fun (u : Nat) => .int (u : Int)) m1 := by
  unfold iRngA; rw [h1]; exact if_pos h2
theorem it_rng2 {j k : Int} (h1 : evA fs dl mu = .ok [.int j, .int k] m1) (h2 : (-4611686018427387904 ≤ j ∧ j < 4611686018427387904) ∧ (-4611686018427387904 ≤ k ∧ k < 4611686018427387904)) : iRngB fs dl mu = .it ((List.range (k - j).toNat).map fun (u : Nat) => .int (j + u)) m1 := by
  unfold iRngB; rw [h1]; exact if_pos h2
theorem gAdd_str {a b : List Nat} (h : a.length + b.length ≤ 1000000) : gAdd (.str a) (.str b) mu = some (.str (a ++ b)) := if_pos h
theorem gAdd_lst {a b : List DV} (h : a.length + b.length ≤ 1000000) : gAdd (.lst a) (.lst b) mu = some (.lst (a ++ b)) := if_pos h
theorem gSl_str {z : List Nat} {lo hi : Option Int} (h : z.length ≤ 1000000) : gSl (.str z) lo hi mu = some (.str ((z.drop (HT.sIx z.length 0 lo)).take (HT.sIx z.length z.length hi - HT.sIx z.length 0 lo))) := if_pos h
theorem gIx_str {z : List Nat} {j c : Nat} (h : z.length ≤ 1000000) (hj : z[j]? = some c) : gIx (.str z) (.int j) mu = some (.str [c]) := by
  have hlt : j < z.length := by
    rcases Nat.lt_or_ge j z.length with h | h
    · exact h
    · rw [List.getElem?_eq_none h] at hj; cases hj
  show (if z.length ≤ 1000000 then (atI z j).map fun c => DV.str [c] else none) = _
  rw [if_pos h]
  unfold atI ixN
  rw [if_pos (by omega), if_pos (by omega)]
  simp [hj]
theorem gIx_lst {z : List DV} {j : Nat} (hj : z[j]? = some d) : gIx (.lst z) (.int j) mu = some d := by
  have hlt : j < z.length := by
    rcases Nat.lt_or_ge j z.length with h | h
    · exact h
    · rw [List.getElem?_eq_none h] at hj; cases hj
  show atI z j = _
  unfold atI ixN
  rw [if_pos (by omega), if_pos (by omega)]
  simp [hj]
theorem gLen_str {z : List Nat} (h : z.length ≤ 1000000) : gLen [.str z] mu = some (.int z.length) := if_pos h
end
end DM
namespace DM
open PySem PySem.Spec PyProof.Rows L2
/-! slices with plain bounds -/
section
variable {α : Type}
theorem sl_to (z : List α) (k : Nat) : (z.drop (HT.sIx z.length 0 none)).take (HT.sIx z.length z.length (some (k : Int)) - HT.sIx z.length 0 none) = z.take k := by
  rw [HT.sIx_none, HT.sIx_nat, List.drop_zero, Nat.sub_zero]
  exact List.take_eq_take_iff.2 (by omega)
theorem sl_from (z : List α) (k : Nat) : (z.drop (HT.sIx z.length 0 (some (k : Int)))).take (HT.sIx z.length z.length none - HT.sIx z.length 0 (some (k : Int))) = z.drop k := by
  rw [HT.sIx_none, HT.sIx_nat]
  rw [List.take_of_length_le (by rw [List.length_drop]; omega)]
  rcases Nat.le_total k z.length with h | h
  · rw [Nat.min_eq_left h]
  · rw [Nat.min_eq_right h, List.drop_of_length_le (Nat.le_refl _), List.drop_of_length_le h]
theorem sl_mid (z : List α) (k l : Nat) : (z.drop (HT.sIx z.length 0 (some (k : Int)))).take (HT.sIx z.length z.length (some (l : Int)) - HT.sIx z.length 0 (some (k : Int))) = (z.drop k).take (l - k) := by
  rw [HT.sIx_nat, HT.sIx_nat]
  rcases Nat.le_total k z.length with h | h
  · rw [Nat.min_eq_left h]
    exact List.take_eq_take_iff.2 (by rw [List.length_drop]; omega)
  · rw [Nat.min_eq_right h, List.drop_of_length_le (Nat.le_refl _), List.drop_of_length_le h]
    simp
variable {mu : Mu}
theorem gSl_to {z : List Nat} (k : Nat) (h : z.length ≤ 1000000) : gSl (.str z) none (some (k : Int)) mu = some (.str (z.take k)) := by rw [gSl_str h, sl_to]
theorem gSl_from {z : List Nat} (k : Nat) (h : z.length ≤ 1000000) : gSl (.str z) (some (k : Int)) none mu = some (.str (z.drop k)) := by rw [gSl_str h, sl_from]
theorem gSl_mid {z : List Nat} (k l : Nat) (h : z.length ≤ 1000000) : gSl (.str z) (some (k : Int)) (some (l : Int)) mu = some (.str ((z.drop k).take (l - k))) := by rw [gSl_str h, sl_mid]
theorem gSl_toL {z : List DV} (k : Nat) : gSl (.lst z) none (some (k : Int)) mu = some (.lst (z.take k)) := congrArg (fun x => some (DV.lst x)) (sl_to z k)
theorem gSl_fromL {z : List DV} (k : Nat) : gSl (.lst z) (some (k : Int)) none mu = some (.lst (z.drop k)) := congrArg (fun x => some (DV.lst x)) (sl_from z k)
theorem gSl_midL {z : List DV} (k l : Nat) : gSl (.lst z) (some (k : Int)) (some (l : Int)) mu = some (.lst ((z.drop k).take (l - k))) := congrArg (fun x => some (DV.lst x)) (sl_mid z k l)
end
end DM
/-! what the laws' own small defs give -/
namespace DM
open PySem PySem.Spec PyProof.Rows L2
/-! draws -/
def mixB : DS := (sSeq (sSet 2 (eOp gMod (eOp gAdd (eOp gAdd (eOp gMul (eOp gMod (eVar 0) (eC (.int 2147483647))) (eC (.int 48271))) (eOp gMul (eC (.int 7919)) (eVar 1))) (eC (.int 1))) (eC (.int 2147483647))))
  (sRet (eOp gMod (eOp gMul (eVar 2) (eVar 2)) (eC (.int 2147483647)))))
def mixN (c k : Int) : Int := (c % 2147483647 * 48271 + 7919 * k + 1) % 2147483647
def mix (c k : Int) : Int := mixN c k * mixN c k % 2147483647
theorem mix_nn (c k : Int) : 0 ≤ mix c k := Int.emod_nonneg _ (by decide)
theorem mix_lt (c k : Int) : mix c k < 2147483647 := Int.emod_lt_of_pos _ (by decide)
section
variable {dl dl1 : Dl} {mu m1 m2 : Mu} {i j k : Int}
theorem g_add : gAdd (.int i) (.int j) mu = some (.int (i + j)) := rfl
theorem g_sub : DM.gSub (.int i) (.int j) mu = some (.int (i - j)) := rfl
theorem g_mod (h : 0 < j) : DM.gMod (.int i) (.int j) mu = some (.int (i % j)) := gI_pos h
theorem g_div (h : 0 < j ∧ j < 1073741824) : DM.gDiv (.int i) (.int j) mu = some (.int (i / j)) := gI_pos h
theorem g_mul1 (h : -18446744073709551616 < i ∧ i < 18446744073709551616) : DM.gMul (.int i) (.int j) mu = some (.int (i * j)) := gI_pos (.inl h)
theorem g_mul2 (h : -18446744073709551616 < j ∧ j < 18446744073709551616) : DM.gMul (.int i) (.int j) mu = some (.int (i * j)) := gI_pos (.inr h)
theorem g_lt : DM.gLt0 (.int i) (.int j) mu = some (.bl (decide (i < j))) := rfl
theorem g_le : DM.gLe (.int i) (.int j) mu = some (.bl (decide (i ≤ j))) := rfl
theorem g_gt : DM.gGt (.int i) (.int j) mu = some (.bl (decide (j < i))) := rfl
theorem g_ge : DM.gGe (.int i) (.int j) mu = some (.bl (decide (j ≤ i))) := rfl
theorem g_eq : DM.gEq (.int i) (.int j) mu = some (.bl (decide (i = j))) := rfl
theorem g_ne : DM.gNe (.int i) (.int j) mu = some (.bl (!decide (i = j))) := rfl
theorem mixB_eq (c k : Int) (mu : Mu) : runF 3 2 mixB [.int c, .int k] mu = .ok (.int (mix c k)) mu := by
  have s1 : DM.gMod (.int c) (.int 2147483647) mu = some (.int (c % 2147483647)) := g_mod (by decide)
  have s2 : DM.gMul (.int (c % 2147483647)) (.int 48271) mu = some (.int (c % 2147483647 * 48271)) := g_mul2 (by decide)
  have s3 : DM.gMul (.int 7919) (.int k) mu = some (.int (7919 * k)) := g_mul1 (by decide)
  have s4 : DM.gMod (.int (c % 2147483647 * 48271 + 7919 * k + 1)) (.int 2147483647) mu = some (.int (mixN c k)) := g_mod (by decide)
  have h0 : 0 ≤ mixN c k := Int.emod_nonneg _ (by decide)
  have h1 : mixN c k < 2147483647 := Int.emod_lt_of_pos _ (by decide)
  have s5 : DM.gMul (.int (mixN c k)) (.int (mixN c k)) mu = some (.int (mixN c k * mixN c k)) := g_mul1 (by omega)
  have s6 : DM.gMod (.int (mixN c k * mixN c k)) (.int 2147483647) mu = some (.int (mix c k)) := g_mod (by decide)
  refine runF_rt rfl (es_seq (m1 := mu) (es_set (d := .int (mixN c k)) (ev_op (ev_op (ev_op (ev_op (ev_op (ev_var rfl) ev_c s1) ev_c s2) (ev_op ev_c (ev_var rfl) s3) g_add) ev_c g_add) ev_c s4)) (es_ret (ev_op (ev_op (ev_var rfl) (ev_var rfl) s5) ev_c s6)))
/-! a cell of the script -/
def cellB : DS := (sSeq (sIf (eB (eOp gLt0 (eVar 1) (eCB gLen [(eVar 0)])))
  (sRet (eOp gIx (eVar 0) (eVar 1)))
  sNext)
  (sRet (eC (.int 0))))
def cellI (ns : List Int) (k : Nat) : Int := ns.getD k 0
theorem cellB_eq (ns : List Int) (k : Nat) (mu : Mu) : runF 2 2 cellB [.lst (ns.map .int), .int k] mu = .ok (.int (cellI ns k)) mu := by
  have hl : gLen [.lst (ns.map DV.int)] mu = some (.int ns.length) := by
    show some (DV.int ((ns.map DV.int).length : Nat)) = _
    rw [List.length_map]
  by_cases h : k < ns.length
  · have t : DM.gLt0 (.int k) (.int ns.length) mu = some (.bl true) := g_lt.trans (by rw [decide_eq_true (by omega)])
    have ix : gIx (.lst (ns.map DV.int)) (.int k) mu = some (.int (cellI ns k)) := gIx_lst (by
      rw [List.getElem?_map, List.getElem?_eq_getElem h]
      unfold cellI
      rw [List.getD_eq_getElem?_getD, List.getElem?_eq_getElem h]
      rfl)
    exact runF_rt rfl (es_rt (es_if_t (m1 := mu) (ev_B (ev_op (ev_var rfl) (ev_cb (ea_cons (ev_var rfl) ea_nil) hl) t)) (es_ret (ev_op (ev_var rfl) (ev_var rfl) ix))))
  · have t : DM.gLt0 (.int k) (.int ns.length) mu = some (.bl false) := g_lt.trans (by rw [decide_eq_false (by omega)])
    have e : cellI ns k = 0 := by
      unfold cellI
      rw [List.getD_eq_getElem?_getD, List.getElem?_eq_none (by omega)]
      rfl
    rw [e]
    exact runF_rt rfl (es_seq (m1 := mu) (es_if_f (m1 := mu) (ev_B (ev_op (ev_var rfl) (ev_cb (ea_cons (ev_var rfl) ea_nil) hl) t)) es_nx) (es_ret ev_c))
/-! a whole number, as due -/
def wholeB : DS := (sRet (eAnd (eCB gIsi [(eVar 0), (eC (.ty "int"))]) (eAnd (eNot (eCB gIsi [(eVar 0), (eC (.ty "bool"))])) (eOp gEq (eVar 0) (eVar 1)))))
theorem wholeB_eq (i j : Int) (mu : Mu) : runF 2 2 wholeB [.int i, .int j] mu = .ok (.bl (decide (i = j))) mu := by
  refine runF_rt rfl (es_ret (ev_and_t (m1 := mu) (ev_cb (ea_cons (ev_var rfl) (ea_cons ev_c ea_nil)) rfl) (ev_and_t (m1 := mu) (ev_not (b := false) (ev_cb (ea_cons (ev_var rfl) (ea_cons ev_c ea_nil)) rfl)) (ev_op (ev_var rfl) (ev_var rfl) g_eq))))
end
/-! one sign out of a text -/
theorem gIx_mod {z : List Nat} {n : Int} {mu : Mu} (h : z.length ≤ 1000000) (h0 : 0 ≤ n) (h1 : n < z.length) : gIx (.str z) (.int n) mu = some (.str [z.getD n.toNat 0]) := by
  have h2 : n.toNat < z.length := by omega
  have := gIx_str (mu := mu) (z := z) (j := n.toNat) (c := z.getD n.toNat 0) h (by rw [List.getElem?_eq_getElem h2, List.getD_eq_getElem?_getD, List.getElem?_eq_getElem h2]; rfl)
  rw [Int.toNat_of_nonneg h0] at this
  exact this
def sgT : List Nat := [48, 49, 50, 51, 52, 53, 54, 55, 56, 57, 97, 98, 99, 100, 101, 102, 103, 104, 105, 106, 107, 108, 109, 110, 111, 112, 113, 114, 115, 116, 117, 118, 119, 120, 121, 122, 65, 66, 67, 68, 69, 70, 71, 72, 73, 74, 75, 76, 77, 78, 79, 80, 81, 82, 83, 84, 85, 86, 87, 88, 89, 90] ++ [32, 33, 34, 35, 36, 38, 39, 40, 41, 42, 43, 44, 45, 46, 47, 58, 59, 60, 61, 62, 63, 64, 91, 92, 93, 94, 95, 96, 123, 124, 125, 126, 10, 9]
def sgB : DS := (sSeq (sSet 2 (eC (.str [48, 49, 50, 51, 52, 53, 54, 55, 56, 57, 97, 98, 99, 100, 101, 102, 103, 104, 105, 106, 107, 108, 109, 110, 111, 112, 113, 114, 115, 116, 117, 118, 119, 120, 121, 122, 65, 66, 67, 68, 69, 70, 71, 72, 73, 74, 75, 76, 77, 78, 79, 80, 81, 82, 83, 84, 85, 86, 87, 88, 89, 90])))
  (sSeq (sSet 2 (eOp gAdd (eVar 2) (eC (.str [32, 33, 34, 35, 36, 38, 39, 40, 41, 42, 43, 44, 45, 46, 47, 58, 59, 60, 61, 62, 63, 64, 91, 92, 93, 94, 95, 96, 123, 124, 125, 126, 10, 9]))))
  (sRet (eOp gIx (eVar 2) (eOp gMod (eVar 0) (eVar 1))))))
def sgn (n m : Int) : Nat := sgT.getD (n % m).toNat 0
theorem sgB_eq (n m : Int) (mu : Mu) (h0 : 0 < m) (h1 : m ≤ 96) : runF 3 2 sgB [.int n, .int m] mu = .ok (.str [sgn n m]) mu := by
  have s1 : DM.gMod (.int n) (.int m) mu = some (.int (n % m)) := g_mod h0
  have a := Int.emod_nonneg n (by omega : m ≠ 0)
  have b := Int.emod_lt_of_pos n h0
  have s2 : gIx (.str sgT) (.int (n % m)) mu = some (.str [sgn n m]) := gIx_mod (by decide) a (by show _ < (96 : Int); omega)
  exact runF_rt rfl (es_seq (m1 := mu) (es_set ev_c) (es_seq (m1 := mu) (es_set (d := .str sgT) (ev_op (ev_var rfl) ev_c (gAdd_str (by decide)))) (es_ret (ev_op (ev_var rfl) (ev_op (ev_var rfl) (ev_var rfl) s1) s2))))
theorem joinL_one (ls : List Nat) : TL.joinL [] (ls.map fun c => [c]) = ls := by
  induction ls with
  | nil => rfl
  | cons a r ih => cases r with
    | nil => rfl
    | cons b r =>
      show [a] ++ ([] ++ TL.joinL [] ((b :: r).map fun c => [c])) = _
      rw [ih]
      rfl
/-- signs joined -/
theorem gJoin_one {ls : List Nat} {mu : Mu} (h : ls.length ≤ 1000000) : gJoin (.str []) (.lst (ls.map fun c => DV.str [c])) mu = some (.str ls) := by
  have e1 : (ls.map fun c => DV.str [c]) = (ls.map fun c => [c]).map DV.str := by simp
  unfold gJoin
  show (match strsOf (ls.map fun c => DV.str [c]) with | some ls => (if (ls.map (fun x : List Nat => x.length)).sum + ls.length * ([] : List Nat).length ≤ 1000000 then some (DV.str (TL.joinL [] ls)) else none) | none => none) = _
  rw [e1, strs_map]
  rw [show ∀ ls : List (List Nat), (match some ls with | some ls => (if (ls.map (fun x : List Nat => x.length)).sum + ls.length * ([] : List Nat).length ≤ 1000000 then some (DV.str (TL.joinL [] ls)) else none) | none => none) = (if (ls.map (fun x : List Nat => x.length)).sum + ls.length * ([] : List Nat).length ≤ 1000000 then some (DV.str (TL.joinL [] ls)) else none) from fun _ => rfl]
  have e2 : ((ls.map fun c => [c]).map (fun x : List Nat => x.length)).sum = ls.length := by
    have : ((ls.map fun c => [c]).map (fun x : List Nat => x.length)) = ls.map fun _ => 1 := by simp
    rw [this, List.map_const', List.sum_replicate_nat]
    omega
  rw [if_pos (by simp only [List.length_nil, Nat.mul_zero]; omega), joinL_one]
/-- a loop over a list: what the turns make of it, as a fold over what stands in the slots -/
theorem forL_fold {α β : Type} {t : Tg} {body : DS} {J : β → Dl → Mu → Prop} {step : β → α → β} {xs : List α} {dv : α → DV} (hs : ∀ a b dl mu, a ∈ xs → J b dl mu → ∃ dl1, t (dv a) dl = some dl1 ∧ ∃ dl2 m2, (body dl1 mu = .nx dl2 m2 ∨ body dl1 mu = .ct dl2 m2) ∧ J (step b a) dl2 m2) {b : β} {dl : Dl} {mu : Mu} (h : J b dl mu) : ∃ dl' mu', forL t body (xs.map dv) dl mu = .nx dl' mu' ∧ J (xs.foldl step b) dl' mu' := by
  obtain ⟨dl', mu', e, zs, hz, hJ⟩ := forL_inv (t := t) (body := body) (I := fun ys dl mu => ∃ zs : List α, (ys = zs.map dv ∧ ∀ a, a ∈ zs → a ∈ xs) ∧ ∃ b', J b' dl mu ∧ zs.foldl step b' = xs.foldl step b) (by
    rintro x ys dl mu ⟨zs, ⟨hz, hm⟩, b', hJ, hf⟩
    cases zs with
    | nil => cases hz
    | cons a zs =>
      obtain ⟨rfl, rfl⟩ := List.cons.inj hz
      obtain ⟨dl1, h1, dl2, m2, h2, h3⟩ := hs a b' dl mu (hm a (.head _)) hJ
      exact ⟨dl1, h1, dl2, m2, h2, zs, ⟨rfl, fun c hc => hm c (.tail _ hc)⟩, _, h3, hf⟩) (xs.map dv) dl mu ⟨xs, ⟨rfl, fun _ h => h⟩, b, h, rfl⟩
  obtain ⟨b', hJ, hf⟩ := hJ
  cases zs with
  | cons a zs => cases hz.1
  | nil =>
    refine ⟨dl', mu', e, ?_⟩
    rw [← hf]
    exact hJ
theorem sFor_fold {α β : Type} {f : DI} {t : Tg} {body : DS} {J : β → Dl → Mu → Prop} {step : β → α → β} {xs : List α} {dv : α → DV} {b : β} {dl : Dl} {mu m1 : Mu} (hf : f dl mu = .it (xs.map dv) m1) (h : J b dl m1) (hs : ∀ a b dl mu, a ∈ xs → J b dl mu → ∃ dl1, t (dv a) dl = some dl1 ∧ ∃ dl2 m2, (body dl1 mu = .nx dl2 m2 ∨ body dl1 mu = .ct dl2 m2) ∧ J (step b a) dl2 m2) : ∃ dl' mu', sFor f t body dl mu = .nx dl' mu' ∧ J (xs.foldl step b) dl' mu' := by
  unfold sFor
  rw [hf]
  exact forL_fold hs h
/-! bits of numbers from 0 -/
theorem nat_band (a b : Nat) : Builtin.bitAnd (a : Int) (b : Int) = ((a &&& b : Nat) : Int) := by
  unfold Builtin.bitAnd
  have h1 : decide ((0 : Int) ≤ a) = true := by simp
  have h2 : decide ((0 : Int) ≤ b) = true := by simp
  rw [h1, h2]; simp
theorem nat_bxor (a b : Nat) : Builtin.bitXor (a : Int) (b : Int) = ((a ^^^ b : Nat) : Int) := by
  rw [Bits.bitXor_pp (by omega) (by omega)]; simp
theorem and_low16 (b : Nat) : b &&& 65535 = b % 65536 := Nat.and_two_pow_sub_one_eq_mod b 16
/-- the loop of draws gives a list of draws -/
theorem whole_t (i : Int) (mu : Mu) : runF 2 2 wholeB [.int i, .int i] mu = .ok (.bl true) mu := by rw [wholeB_eq, decide_eq_true rfl]
theorem tru_b {b : Bool} {mu : Mu} : truth mu (.bl b) = some b := rfl
end DM
namespace LawM
open PySem PySem.Spec PyProof.Rows L2 DM
def top (i : Nat) : Stmt := PySem.Challenge.pw_lettercell_k02_rows_of_keys.main.body.getD i (.Pass ⟨0, 0, 0, 0⟩)
abbrev s__law_mixed : Stmt := top 5
abbrev s__law_sign : Stmt := top 6
abbrev s__law_key : Stmt := top 7
abbrev s__law_other : Stmt := top 8
abbrev s__law_whole : Stmt := top 11
abbrev s_spread : Stmt := top 1
abbrev s__law_laid_over : Stmt := top 9
abbrev s__law_spread : Stmt := top 10
abbrev s_row_in : Stmt := top 2
abbrev s_law : Stmt := top 12
/-- what the top has left -/
structure Tx (K : PySem.W.Frag) (mg : Str → Option Value) : Prop where
  n_bool : mg "bool" = none
  n_int : mg "int" = none
  n_isinstance : mg "isinstance" = none
  n_len : mg "len" = none
  n_ord : mg "ord" = none
  n_range : mg "range" = none
  g__law_mixed : mg "_law_mixed" = some (.ref (He.ga K "_law_mixed"))
  d__law_mixed : ∃ fd, FunD K "_law_mixed" "_law_mixed" (defArgs s__law_mixed) (defBody s__law_mixed) (defScope s__law_mixed) [] [] (He.ga K "_law_mixed") fd
  g__law_sign : mg "_law_sign" = some (.ref (He.ga K "_law_sign"))
  d__law_sign : ∃ fd, FunD K "_law_sign" "_law_sign" (defArgs s__law_sign) (defBody s__law_sign) (defScope s__law_sign) [] [] (He.ga K "_law_sign") fd
  g__law_key : mg "_law_key" = some (.ref (He.ga K "_law_key"))
  d__law_key : ∃ fd, FunD K "_law_key" "_law_key" (defArgs s__law_key) (defBody s__law_key) (defScope s__law_key) [] [] (He.ga K "_law_key") fd
  g__law_other : mg "_law_other" = some (.ref (He.ga K "_law_other"))
  d__law_other : ∃ fd, FunD K "_law_other" "_law_other" (defArgs s__law_other) (defBody s__law_other) (defScope s__law_other) [] [] (He.ga K "_law_other") fd
  g__law_whole : mg "_law_whole" = some (.ref (He.ga K "_law_whole"))
  d__law_whole : ∃ fd, FunD K "_law_whole" "_law_whole" (defArgs s__law_whole) (defBody s__law_whole) (defScope s__law_whole) [] [] (He.ga K "_law_whole") fd
  g_spread : mg "spread" = some (.ref (He.ga K "spread"))
  d_spread : ∃ fd, FunD K "spread" "spread" (defArgs s_spread) (defBody s_spread) (defScope s_spread) [] [] (He.ga K "spread") fd
  g__law_laid_over : mg "_law_laid_over" = some (.ref (He.ga K "_law_laid_over"))
  d__law_laid_over : ∃ fd, FunD K "_law_laid_over" "_law_laid_over" (defArgs s__law_laid_over) (defBody s__law_laid_over) (defScope s__law_laid_over) [] [] (He.ga K "_law_laid_over") fd
  g__law_spread : mg "_law_spread" = some (.ref (He.ga K "_law_spread"))
  d__law_spread : ∃ fd, FunD K "_law_spread" "_law_spread" (defArgs s__law_spread) (defBody s__law_spread) (defScope s__law_spread) [] [] (He.ga K "_law_spread") fd
  g_row_in : mg "row_in" = some (.ref (He.ga K "row_in"))
  d_row_in : ∃ fd, FunD K "row_in" "row_in" (defArgs s_row_in) (defBody s_row_in) (defScope s_row_in) [] [] (He.ga K "row_in") fd
  g_law : mg "law" = some (.ref (He.ga K "law"))
  d_law : ∃ fd, FunD K "law" "law" (defArgs s_law) (defBody s_law) (defScope s_law) [] [] (He.ga K "law") fd
abbrev cmK (K : PySem.W.Frag) : Cm := fun c => He.ga K (Str.ofString c)
section
variable {P : Program} {w : World} {K : PySem.W.Frag} {mg : Str → Option Value} {base : Heap}
/-! ### _law_mixed -/
abbrev n__law_mixed : List Str := ["_law_cell", "_law_k", "_law_number"]
theorem sc__law_mixed : FnScope n__law_mixed ["_law_cell", "_law_k"] (defScope s__law_mixed) := ⟨rfl, rfl, rfl, by decide +kernel, rfl, by decide +kernel, by decide +kernel⟩
def b__law_mixed : DS := (sSeq (sSet 2 (eOp gMod (eOp gAdd (eOp gAdd (eOp gMul (eOp gMod (eVar 0) (eC (.int 2147483647))) (eC (.int 48271))) (eOp gMul (eC (.int 7919)) (eVar 1))) (eC (.int 1))) (eC (.int 2147483647))))
  (sRet (eOp gMod (eOp gMul (eVar 2) (eVar 2)) (eC (.int 2147483647)))))
def f__law_mixed : Fn := runF 3 2 b__law_mixed
theorem p__law_mixed (T : Tx K mg) : CalD P w K mg base (cmK K) 1 "_law_mixed" 2 [] f__law_mixed := by
  obtain ⟨fd, Fd⟩ := T.d__law_mixed
  refine (cal_mk Fd sc__law_mixed rfl T.g__law_mixed (Fd.bindsN fun _ _ _ _ _ _ us hl => match us, hl with | [_, _], _ => rfl) fun cdv A outer s H E hr => ?_)
  · skip
    have tk : Takes (cxOf (L2.CX P w) P w K mg base n__law_mixed "_law_mixed" (defScope s__law_mixed) (He.ga K "_law_mixed") cdv A outer s H E) (fun cls d _ H => E cls d H) := takes_of rfl rfl rfl rfl
    have pass := passes_of (X := cxOf (L2.CX P w) P w K mg base n__law_mixed "_law_mixed" (defScope s__law_mixed) (He.ga K "_law_mixed") cdv A outer s H E) rfl
    exact (pdb_cons (pds_set (i := 2) sc__law_mixed.nd (pd_mod (pd_add (pd_add (pd_mul (pd_mod (pd_var 0) pd_int) pd_int) (pd_mul pd_int (pd_var 1))) pd_int) pd_int))
  (pdb_one (pds_ret (pd_mod (pd_mul (pd_var 2) (pd_var 2)) pd_int))))
/-! ### _law_sign -/
abbrev n__law_sign : List Str := ["_law_number", "_law_many", "_law_some"]
theorem sc__law_sign : FnScope n__law_sign ["_law_number", "_law_many"] (defScope s__law_sign) := ⟨rfl, rfl, rfl, by decide +kernel, rfl, by decide +kernel, by decide +kernel⟩
def b__law_sign : DS := (sSeq (sSet 2 (eC (.str [48, 49, 50, 51, 52, 53, 54, 55, 56, 57, 97, 98, 99, 100, 101, 102, 103, 104, 105, 106, 107, 108, 109, 110, 111, 112, 113, 114, 115, 116, 117, 118, 119, 120, 121, 122, 65, 66, 67, 68, 69, 70, 71, 72, 73, 74, 75, 76, 77, 78, 79, 80, 81, 82, 83, 84, 85, 86, 87, 88, 89, 90])))
  (sSeq (sSet 2 (eOp gAdd (eVar 2) (eC (.str [32, 33, 34, 35, 36, 38, 39, 40, 41, 42, 43, 44, 45, 46, 47, 58, 59, 60, 61, 62, 63, 64, 91, 92, 93, 94, 95, 96, 123, 124, 125, 126, 10, 9]))))
  (sRet (eOp gIx (eVar 2) (eOp gMod (eVar 0) (eVar 1))))))
def f__law_sign : Fn := runF 3 2 b__law_sign
theorem p__law_sign (T : Tx K mg) : CalD P w K mg base (cmK K) 1 "_law_sign" 2 [] f__law_sign := by
  obtain ⟨fd, Fd⟩ := T.d__law_sign
  refine (cal_mk Fd sc__law_sign rfl T.g__law_sign (Fd.bindsN fun _ _ _ _ _ _ us hl => match us, hl with | [_, _], _ => rfl) fun cdv A outer s H E hr => ?_)
  · skip
    have tk : Takes (cxOf (L2.CX P w) P w K mg base n__law_sign "_law_sign" (defScope s__law_sign) (He.ga K "_law_sign") cdv A outer s H E) (fun cls d _ H => E cls d H) := takes_of rfl rfl rfl rfl
    have pass := passes_of (X := cxOf (L2.CX P w) P w K mg base n__law_sign "_law_sign" (defScope s__law_sign) (He.ga K "_law_sign") cdv A outer s H E) rfl
    exact (pdb_cons (pds_set (i := 2) sc__law_sign.nd (pd_str [48, 49, 50, 51, 52, 53, 54, 55, 56, 57, 97, 98, 99, 100, 101, 102, 103, 104, 105, 106, 107, 108, 109, 110, 111, 112, 113, 114, 115, 116, 117, 118, 119, 120, 121, 122, 65, 66, 67, 68, 69, 70, 71, 72, 73, 74, 75, 76, 77, 78, 79, 80, 81, 82, 83, 84, 85, 86, 87, 88, 89, 90]))
  (pdb_cons (pds_set (i := 2) sc__law_sign.nd (pd_add (pd_var 2) (pd_str [32, 33, 34, 35, 36, 38, 39, 40, 41, 42, 43, 44, 45, 46, 47, 58, 59, 60, 61, 62, 63, 64, 91, 92, 93, 94, 95, 96, 123, 124, 125, 126, 10, 9])))
  (pdb_one (pds_ret (pd_ix (pd_var 2) (pd_mod (pd_var 0) (pd_var 1)))))))
/-! ### _law_key -/
abbrev n__law_key : List Str := ["_law_cell", "_law_size", "_law_k"]
theorem sc__law_key : FnScope n__law_key ["_law_cell"] (defScope s__law_key) := ⟨rfl, rfl, rfl, by decide +kernel, rfl, by decide +kernel, by decide +kernel⟩
def b__law_key : DS := (sSeq (sSet 1 (eOp gAdd (eC (.int 1)) (eOp gMod (eCall f__law_mixed [(eVar 0), (eC (.int 1))] []) (eC (.int 24)))))
  (sRet (eM1 gJoin (eC (.str [])) (eComp (iRngA [(eVar 1)]) (tgN 2) eYes (eCall f__law_sign [(eCall f__law_mixed [(eVar 0), (eOp gAdd (eC (.int 40)) (eVar 2))] []), (eC (.int 94))] []) [2]))))
def f__law_key : Fn := runF 3 1 b__law_key
theorem p__law_key (T : Tx K mg) : CalD P w K mg base (cmK K) 2 "_law_key" 1 [] f__law_key := by
  obtain ⟨fd, Fd⟩ := T.d__law_key
  have P__law_mixed := p__law_mixed (P := P) (w := w) (base := base) T
  have P__law_sign := p__law_sign (P := P) (w := w) (base := base) T
  refine (cal_mk Fd sc__law_key rfl T.g__law_key (Fd.bindsN fun _ _ _ _ _ _ us hl => match us, hl with | [_], _ => rfl) fun cdv A outer s H E hr => ?_)
  · skip
    have tk : Takes (cxOf (L2.CX P w) P w K mg base n__law_key "_law_key" (defScope s__law_key) (He.ga K "_law_key") cdv A outer s H E) (fun cls d _ H => E cls d H) := takes_of rfl rfl rfl rfl
    have pass := passes_of (X := cxOf (L2.CX P w) P w K mg base n__law_key "_law_key" (defScope s__law_key) (He.ga K "_law_key") cdv A outer s H E) rfl
    exact (pdb_cons (pds_set (i := 1) sc__law_key.nd (pd_add pd_int (pd_mod (pd_call P__law_mixed tk hr (by decide) (by rfl) (pda_cons (pd_var 0) (pda_cons pd_int pda_nil))) pd_int)))
  (pdb_one (pds_ret (pd_join (pd_str []) (pd_comp (own := [("_law_k", 2)]) fin_L rfl sc__law_key.nd (pdi_rng1 (by rfl) T.n_range (pda_cons (pd_var 1) pda_nil)) (blkOk_by (N := n__law_key) (sc := defScope s__law_key) (by decide +kernel)) (fun _ _ _ _ _ => (pdgv_name (i := 2) sc__law_key.nd)) (fun _ _ _ _ _ => pdts_nil) (fun _ _ _ _ _ => (pd_call P__law_sign takes0 hr (by decide) (by rfl) (pda_cons (pd_call P__law_mixed takes0 hr (by decide) (by rfl) (pda_cons (pd_var 0) (pda_cons (pd_add pd_int (pd_var 2)) pda_nil))) (pda_cons pd_int pda_nil)))))))))
/-! ### _law_other -/
abbrev n__law_other : List Str := ["_law_key_here", "_law_cell", "_law_at"]
theorem sc__law_other : FnScope n__law_other ["_law_key_here", "_law_cell"] (defScope s__law_other) := ⟨rfl, rfl, rfl, by decide +kernel, rfl, by decide +kernel, by decide +kernel⟩
def b__law_other : DS := (sSeq (sSet 2 (eOp gMod (eCall f__law_mixed [(eVar 1), (eC (.int 2))] []) (eCB gLen [(eVar 0)])))
  (sRet (eOp gAdd (eOp gAdd (eSl (eVar 0) (eC .non) (eI (eVar 2))) (eCall f__law_sign [(eCall f__law_mixed [(eVar 1), (eC (.int 3))] []), (eC (.int 94))] [])) (eSl (eVar 0) (eI (eOp gAdd (eVar 2) (eC (.int 1)))) (eC .non)))))
def f__law_other : Fn := runF 3 2 b__law_other
theorem p__law_other (T : Tx K mg) : CalD P w K mg base (cmK K) 2 "_law_other" 2 [] f__law_other := by
  obtain ⟨fd, Fd⟩ := T.d__law_other
  have P__law_mixed := p__law_mixed (P := P) (w := w) (base := base) T
  have P__law_sign := p__law_sign (P := P) (w := w) (base := base) T
  refine (cal_mk Fd sc__law_other rfl T.g__law_other (Fd.bindsN fun _ _ _ _ _ _ us hl => match us, hl with | [_, _], _ => rfl) fun cdv A outer s H E hr => ?_)
  · skip
    have tk : Takes (cxOf (L2.CX P w) P w K mg base n__law_other "_law_other" (defScope s__law_other) (He.ga K "_law_other") cdv A outer s H E) (fun cls d _ H => E cls d H) := takes_of rfl rfl rfl rfl
    have pass := passes_of (X := cxOf (L2.CX P w) P w K mg base n__law_other "_law_other" (defScope s__law_other) (He.ga K "_law_other") cdv A outer s H E) rfl
    exact (pdb_cons (pds_set (i := 2) sc__law_other.nd (pd_mod (pd_call P__law_mixed tk hr (by decide) (by rfl) (pda_cons (pd_var 1) (pda_cons pd_int pda_nil))) (pd_len (by rfl) T.n_len (pda_cons (pd_var 0) pda_nil))))
  (pdb_one (pds_ret (pd_add (pd_add (pd_sl (pd_var 0) pdo_none (pdo_some (pd_var 2))) (pd_call P__law_sign tk hr (by decide) (by rfl) (pda_cons (pd_call P__law_mixed tk hr (by decide) (by rfl) (pda_cons (pd_var 1) (pda_cons pd_int pda_nil))) (pda_cons pd_int pda_nil)))) (pd_sl (pd_var 0) (pdo_some (pd_add (pd_var 2) pd_int)) pdo_none)))))
/-! ### _law_whole -/
abbrev n__law_whole : List Str := ["_law_found", "_law_due"]
theorem sc__law_whole : FnScope n__law_whole ["_law_found", "_law_due"] (defScope s__law_whole) := ⟨rfl, rfl, rfl, by decide +kernel, rfl, by decide +kernel, by decide +kernel⟩
def b__law_whole : DS := (sRet (eAnd (eCB gIsi [(eVar 0), (eC (.ty "int"))]) (eAnd (eNot (eCB gIsi [(eVar 0), (eC (.ty "bool"))])) (eOp gEq (eVar 0) (eVar 1)))))
def f__law_whole : Fn := runF 2 2 b__law_whole
theorem p__law_whole (T : Tx K mg) : CalD P w K mg base (cmK K) 1 "_law_whole" 2 [] f__law_whole := by
  obtain ⟨fd, Fd⟩ := T.d__law_whole
  refine (cal_mk Fd sc__law_whole rfl T.g__law_whole (Fd.bindsN fun _ _ _ _ _ _ us hl => match us, hl with | [_, _], _ => rfl) fun cdv A outer s H E hr => ?_)
  · skip
    have tk : Takes (cxOf (L2.CX P w) P w K mg base n__law_whole "_law_whole" (defScope s__law_whole) (He.ga K "_law_whole") cdv A outer s H E) (fun cls d _ H => E cls d H) := takes_of rfl rfl rfl rfl
    have pass := passes_of (X := cxOf (L2.CX P w) P w K mg base n__law_whole "_law_whole" (defScope s__law_whole) (He.ga K "_law_whole") cdv A outer s H E) rfl
    exact (pdb_one (pds_ret (pd_and (pd_isi (by rfl) T.n_isinstance (pda_cons (pd_var 0) (pda_cons (pd_ty (by rfl) T.n_int (by decide +kernel)) pda_nil))) (pd_and (pd_not (pd_isi (by rfl) T.n_isinstance (pda_cons (pd_var 0) (pda_cons (pd_ty (by rfl) T.n_bool (by decide +kernel)) pda_nil)))) (pd_one (pd_eq hr (pd_var 0) (pd_var 1)))))))
/-! ### spread -/
abbrev n_spread : List Str := ["key", "many", "sign"]
theorem sc_spread : FnScope n_spread ["key"] (defScope s_spread) := ⟨rfl, rfl, rfl, by decide +kernel, rfl, by decide +kernel, by decide +kernel⟩
def b_spread : DS := (sSeq (sSet 1 (eC (.int 1)))
  (sSeq (sFor (iSeq (eVar 0)) (tgN 2)
  (sSet 1 (eOp gAnd (eOp gAdd (eOp gMul (eVar 1) (eC (.int 37))) (eCB gOrd [(eVar 2)])) (eC (.int 65535)))))
  (sRet (eOp gXor (eVar 1) (eOp gShr (eVar 1) (eC (.int 8)))))))
def f_spread : Fn := runF 3 1 b_spread
theorem p_spread (T : Tx K mg) : CalD P w K mg base (cmK K) 1 "spread" 1 [] f_spread := by
  obtain ⟨fd, Fd⟩ := T.d_spread
  refine (cal_mk Fd sc_spread rfl T.g_spread (Fd.bindsN fun _ _ _ _ _ _ us hl => match us, hl with | [_], _ => rfl) fun cdv A outer s H E hr => ?_)
  · skip
    have tk : Takes (cxOf (L2.CX P w) P w K mg base n_spread "spread" (defScope s_spread) (He.ga K "spread") cdv A outer s H E) (fun cls d _ H => E cls d H) := takes_of rfl rfl rfl rfl
    have pass := passes_of (X := cxOf (L2.CX P w) P w K mg base n_spread "spread" (defScope s_spread) (He.ga K "spread") cdv A outer s H E) rfl
    exact (pdb_cons (pds_set (i := 1) sc_spread.nd pd_int)
  (pdb_cons (pds_for pass rfl (pdi_seq (pd_var 0)) (pdg_name (i := 2) sc_spread.nd)
  (pdb_one (pds_set (i := 1) sc_spread.nd (pd_band (pd_add (pd_mul (pd_var 1) pd_int) (pd_ord (by rfl) T.n_ord (pda_cons (pd_var 2) pda_nil))) pd_int))))
  (pdb_one (pds_ret (pd_bxor (pd_var 1) (pd_shr (pd_var 1) pd_int))))))
/-! ### _law_laid_over -/
abbrev n__law_laid_over : List Str := ["_law_one", "_law_other_here", "_law_found", "_law_worth"]
theorem sc__law_laid_over : FnScope n__law_laid_over ["_law_one", "_law_other_here"] (defScope s__law_laid_over) := ⟨rfl, rfl, rfl, by decide +kernel, rfl, by decide +kernel, by decide +kernel⟩
def b__law_laid_over : DS := (sSeq (sSet 2 (eC (.int 0)))
  (sSeq (sFor (iSeq (eLst [(eC (.int 1)), (eC (.int 2)), (eC (.int 4)), (eC (.int 8)), (eC (.int 16)), (eC (.int 32)), (eC (.int 64)), (eC (.int 128))])) (tgN 3)
  (sIf (eB (eOp gNe (eOp gMod (eOp gDiv (eVar 0) (eVar 3)) (eC (.int 2))) (eOp gMod (eOp gDiv (eVar 1) (eVar 3)) (eC (.int 2)))))
  (sSet 2 (eOp gAdd (eVar 2) (eVar 3)))
  sNext))
  (sRet (eVar 2))))
def f__law_laid_over : Fn := runF 4 2 b__law_laid_over
theorem p__law_laid_over (T : Tx K mg) : CalD P w K mg base (cmK K) 1 "_law_laid_over" 2 [] f__law_laid_over := by
  obtain ⟨fd, Fd⟩ := T.d__law_laid_over
  refine (cal_mk Fd sc__law_laid_over rfl T.g__law_laid_over (Fd.bindsN fun _ _ _ _ _ _ us hl => match us, hl with | [_, _], _ => rfl) fun cdv A outer s H E hr => ?_)
  · skip
    have tk : Takes (cxOf (L2.CX P w) P w K mg base n__law_laid_over "_law_laid_over" (defScope s__law_laid_over) (He.ga K "_law_laid_over") cdv A outer s H E) (fun cls d _ H => E cls d H) := takes_of rfl rfl rfl rfl
    have pass := passes_of (X := cxOf (L2.CX P w) P w K mg base n__law_laid_over "_law_laid_over" (defScope s__law_laid_over) (He.ga K "_law_laid_over") cdv A outer s H E) rfl
    exact (pdb_cons (pds_set (i := 2) sc__law_laid_over.nd pd_int)
  (pdb_cons (pds_for pass rfl (pdi_seq (pd_lst (pda_cons pd_int (pda_cons pd_int (pda_cons pd_int (pda_cons pd_int (pda_cons pd_int (pda_cons pd_int (pda_cons pd_int (pda_cons pd_int pda_nil)))))))))) (pdg_name (i := 3) sc__law_laid_over.nd)
  (pdb_one (pds_if (pdt_cmp (OpR_or op_ne (op_neD hr.units)) rs_ne (pd_mod (pd_div (pd_var 0) (pd_var 3)) pd_int) (pd_mod (pd_div (pd_var 1) (pd_var 3)) pd_int) (nomark _))
  (pdb_one (pds_set (i := 2) sc__law_laid_over.nd (pd_add (pd_var 2) (pd_var 3))))
  pdb_nil)))
  (pdb_one (pds_ret (pd_var 2)))))
/-! ### _law_spread -/
abbrev n__law_spread : List Str := ["_law_key_here", "_law_number", "_law_sign_here", "_law_high"]
theorem sc__law_spread : FnScope n__law_spread ["_law_key_here"] (defScope s__law_spread) := ⟨rfl, rfl, rfl, by decide +kernel, rfl, by decide +kernel, by decide +kernel⟩
def b__law_spread : DS := (sSeq (sSet 1 (eC (.int 1)))
  (sSeq (sFor (iSeq (eVar 0)) (tgN 2)
  (sSet 1 (eOp gMod (eOp gAdd (eOp gMul (eC (.int 37)) (eVar 1)) (eCB gOrd [(eVar 2)])) (eC (.int 65536)))))
  (sSeq (sSet 3 (eOp gDiv (eVar 1) (eC (.int 256))))
  (sRet (eOp gAdd (eOp gMul (eC (.int 256)) (eVar 3)) (eCall f__law_laid_over [(eOp gMod (eVar 1) (eC (.int 256))), (eVar 3)] []))))))
def f__law_spread : Fn := runF 4 1 b__law_spread
theorem p__law_spread (T : Tx K mg) : CalD P w K mg base (cmK K) 2 "_law_spread" 1 [] f__law_spread := by
  obtain ⟨fd, Fd⟩ := T.d__law_spread
  have P__law_laid_over := p__law_laid_over (P := P) (w := w) (base := base) T
  refine (cal_mk Fd sc__law_spread rfl T.g__law_spread (Fd.bindsN fun _ _ _ _ _ _ us hl => match us, hl with | [_], _ => rfl) fun cdv A outer s H E hr => ?_)
  · skip
    have tk : Takes (cxOf (L2.CX P w) P w K mg base n__law_spread "_law_spread" (defScope s__law_spread) (He.ga K "_law_spread") cdv A outer s H E) (fun cls d _ H => E cls d H) := takes_of rfl rfl rfl rfl
    have pass := passes_of (X := cxOf (L2.CX P w) P w K mg base n__law_spread "_law_spread" (defScope s__law_spread) (He.ga K "_law_spread") cdv A outer s H E) rfl
    exact (pdb_cons (pds_set (i := 1) sc__law_spread.nd pd_int)
  (pdb_cons (pds_for pass rfl (pdi_seq (pd_var 0)) (pdg_name (i := 2) sc__law_spread.nd)
  (pdb_one (pds_set (i := 1) sc__law_spread.nd (pd_mod (pd_add (pd_mul pd_int (pd_var 1)) (pd_ord (by rfl) T.n_ord (pda_cons (pd_var 2) pda_nil))) pd_int))))
  (pdb_cons (pds_set (i := 3) sc__law_spread.nd (pd_div (pd_var 1) pd_int))
  (pdb_one (pds_ret (pd_add (pd_mul pd_int (pd_var 3)) (pd_call P__law_laid_over tk hr (by decide) (by rfl) (pda_cons (pd_mod (pd_var 1) pd_int) (pda_cons (pd_var 3) pda_nil)))))))))
/-! ### row_in -/
abbrev n_row_in : List Str := ["key", "many"]
theorem sc_row_in : FnScope n_row_in ["key", "many"] (defScope s_row_in) := ⟨rfl, rfl, rfl, by decide +kernel, rfl, by decide +kernel, by decide +kernel⟩
def b_row_in : DS := (sRet (eOp gMod (eCall f_spread [(eVar 0)] []) (eVar 1)))
def f_row_in : Fn := runF 2 2 b_row_in
theorem p_row_in (T : Tx K mg) : CalD P w K mg base (cmK K) 2 "row_in" 2 [] f_row_in := by
  obtain ⟨fd, Fd⟩ := T.d_row_in
  have P_spread := p_spread (P := P) (w := w) (base := base) T
  refine (cal_mk Fd sc_row_in rfl T.g_row_in (Fd.bindsN fun _ _ _ _ _ _ us hl => match us, hl with | [_, _], _ => rfl) fun cdv A outer s H E hr => ?_)
  · skip
    have tk : Takes (cxOf (L2.CX P w) P w K mg base n_row_in "row_in" (defScope s_row_in) (He.ga K "row_in") cdv A outer s H E) (fun cls d _ H => E cls d H) := takes_of rfl rfl rfl rfl
    have pass := passes_of (X := cxOf (L2.CX P w) P w K mg base n_row_in "row_in" (defScope s_row_in) (He.ga K "row_in") cdv A outer s H E) rfl
    exact (pdb_one (pds_ret (pd_mod (pd_call P_spread tk hr (by decide) (by rfl) (pda_cons (pd_var 0) pda_nil)) (pd_var 1))))
/-! ### law -/
abbrev n_law : List Str := ["_law_script", "_law_cell", "_law_key_here", "_law_other_here", "_law_many"]
theorem sc_law : FnScope n_law ["_law_script"] (defScope s_law) := ⟨rfl, rfl, rfl, by decide +kernel, rfl, by decide +kernel, by decide +kernel⟩
def b_law : DS := (sSeq (sFor (iSeq (eSl (eOp gAdd (eVar 0) (eLst [(eC (.int 0))])) (eC .non) (eI (eC (.int 20))))) (tgN 1)
  (sSeq (sSet 2 (eCall f__law_key [(eVar 1)] []))
  (sSeq (sSet 3 (eCall f__law_other [(eVar 2), (eVar 1)] []))
  (sSeq (sSet 4 (eOp gAdd (eC (.int 1)) (eOp gMod (eCall f__law_mixed [(eVar 1), (eC (.int 4))] []) (eOp gIx (eLst [(eC (.int 9)), (eOp gPow (eC (.int 10)) (eC (.int 9)))]) (eOp gMod (eCall f__law_mixed [(eVar 1), (eC (.int 5))] []) (eC (.int 2)))))))
  (sSeq (sIf (eNot (eTru (eCall f__law_whole [(eCall f_spread [(eVar 2)] []), (eCall f__law_spread [(eVar 2)] [])] [])))
  (sRet (eC (.bl false)))
  sNext)
  (sSeq (sIf (eNot (eTru (eCall f__law_whole [(eCall f_spread [(eVar 3)] []), (eCall f__law_spread [(eVar 3)] [])] [])))
  (sRet (eC (.bl false)))
  sNext)
  (sSeq (sIf (eNot (eTru (eCall f__law_whole [(eCall f_row_in [(eVar 2), (eVar 4)] []), (eOp gMod (eCall f__law_spread [(eVar 2)] []) (eVar 4))] [])))
  (sRet (eC (.bl false)))
  sNext)
  (sSeq (sIf (eNot (eTru (eCall f__law_whole [(eCall f_row_in [(eVar 3), (eVar 4)] []), (eOp gMod (eCall f__law_spread [(eVar 3)] []) (eVar 4))] [])))
  (sRet (eC (.bl false)))
  sNext)
  (sIf (eNot (eTru (eCall f__law_whole [(eCall f_spread [(eVar 2)] []), (eCall f__law_spread [(eVar 2)] [])] [])))
  (sRet (eC (.bl false)))
  sNext)))))))))
  (sRet (eC (.bl true))))
def f_law : Fn := runF 5 1 b_law
theorem p_law (T : Tx K mg) {fd : FuncData} (Fd : FunD K "law" "law" (defArgs s_law) (defBody s_law) (defScope s_law) [] [] (He.ga K "law") fd) : FnOk P w K mg base (L2.CX P w) 3 (He.ga K "law") fd ["_law_script"] (spF K (cmK K) 1 f_law) := by
  have P__law_key := p__law_key (P := P) (w := w) (base := base) T
  have P__law_mixed := p__law_mixed (P := P) (w := w) (base := base) T
  have P__law_other := p__law_other (P := P) (w := w) (base := base) T
  have P__law_spread := p__law_spread (P := P) (w := w) (base := base) T
  have P__law_whole := p__law_whole (P := P) (w := w) (base := base) T
  have P_row_in := p_row_in (P := P) (w := w) (base := base) T
  have P_spread := p_spread (P := P) (w := w) (base := base) T
  exact fn_ok Fd sc_law rfl fun cdv A outer s H E hr => by
    have tk : Takes (cxOf (L2.CX P w) P w K mg base n_law "law" (defScope s_law) (He.ga K "law") cdv A outer s H E) (fun cls d _ H => E cls d H) := takes_of rfl rfl rfl rfl
    have pass := passes_of (X := cxOf (L2.CX P w) P w K mg base n_law "law" (defScope s_law) (He.ga K "law") cdv A outer s H E) rfl
    exact (pdb_cons (pds_for pass rfl (pdi_seq (pd_sl (pd_add (pd_var 0) (pd_lst (pda_cons pd_int pda_nil))) pdo_none (pdo_some pd_int))) (pdg_name (i := 1) sc_law.nd)
  (pdb_cons (pds_set (i := 2) sc_law.nd (pd_call P__law_key tk hr (by decide) (by rfl) (pda_cons (pd_var 1) pda_nil)))
  (pdb_cons (pds_set (i := 3) sc_law.nd (pd_call P__law_other tk hr (by decide) (by rfl) (pda_cons (pd_var 2) (pda_cons (pd_var 1) pda_nil))))
  (pdb_cons (pds_set (i := 4) sc_law.nd (pd_add pd_int (pd_mod (pd_call P__law_mixed tk hr (by decide) (by rfl) (pda_cons (pd_var 1) (pda_cons pd_int pda_nil))) (pd_ix (pd_lst (pda_cons pd_int (pda_cons (pd_pow pd_int pd_int) pda_nil))) (pd_mod (pd_call P__law_mixed tk hr (by decide) (by rfl) (pda_cons (pd_var 1) (pda_cons pd_int pda_nil))) pd_int)))))
  (pdb_cons (pds_if (pdt_not (pdt_tru (pd_call P__law_whole tk hr (by decide) (by rfl) (pda_cons (pd_call P_spread tk hr (by decide) (by rfl) (pda_cons (pd_var 2) pda_nil)) (pda_cons (pd_call P__law_spread tk hr (by decide) (by rfl) (pda_cons (pd_var 2) pda_nil)) pda_nil)))))
  (pdb_one (pds_ret pd_bl))
  pdb_nil)
  (pdb_cons (pds_if (pdt_not (pdt_tru (pd_call P__law_whole tk hr (by decide) (by rfl) (pda_cons (pd_call P_spread tk hr (by decide) (by rfl) (pda_cons (pd_var 3) pda_nil)) (pda_cons (pd_call P__law_spread tk hr (by decide) (by rfl) (pda_cons (pd_var 3) pda_nil)) pda_nil)))))
  (pdb_one (pds_ret pd_bl))
  pdb_nil)
  (pdb_cons (pds_if (pdt_not (pdt_tru (pd_call P__law_whole tk hr (by decide) (by rfl) (pda_cons (pd_call P_row_in tk hr (by decide) (by rfl) (pda_cons (pd_var 2) (pda_cons (pd_var 4) pda_nil))) (pda_cons (pd_mod (pd_call P__law_spread tk hr (by decide) (by rfl) (pda_cons (pd_var 2) pda_nil)) (pd_var 4)) pda_nil)))))
  (pdb_one (pds_ret pd_bl))
  pdb_nil)
  (pdb_cons (pds_if (pdt_not (pdt_tru (pd_call P__law_whole tk hr (by decide) (by rfl) (pda_cons (pd_call P_row_in tk hr (by decide) (by rfl) (pda_cons (pd_var 3) (pda_cons (pd_var 4) pda_nil))) (pda_cons (pd_mod (pd_call P__law_spread tk hr (by decide) (by rfl) (pda_cons (pd_var 3) pda_nil)) (pd_var 4)) pda_nil)))))
  (pdb_one (pds_ret pd_bl))
  pdb_nil)
  (pdb_one (pds_if (pdt_not (pdt_tru (pd_call P__law_whole tk hr (by decide) (by rfl) (pda_cons (pd_call P_spread tk hr (by decide) (by rfl) (pda_cons (pd_var 2) pda_nil)) (pda_cons (pd_call P__law_spread tk hr (by decide) (by rfl) (pda_cons (pd_var 2) pda_nil)) pda_nil)))))
  (pdb_one (pds_ret pd_bl))
  pdb_nil))))))))))
  (pdb_one (pds_ret pd_bl)))
end
def d__law_mixed : He.DefD := ⟨("_law_mixed", none), "_law_mixed", "_law_mixed", defArgs s__law_mixed, defBody s__law_mixed, defScope s__law_mixed, [], []⟩
def d__law_sign : He.DefD := ⟨("_law_sign", none), "_law_sign", "_law_sign", defArgs s__law_sign, defBody s__law_sign, defScope s__law_sign, [], []⟩
def d__law_key : He.DefD := ⟨("_law_key", none), "_law_key", "_law_key", defArgs s__law_key, defBody s__law_key, defScope s__law_key, [], []⟩
def d__law_other : He.DefD := ⟨("_law_other", none), "_law_other", "_law_other", defArgs s__law_other, defBody s__law_other, defScope s__law_other, [], []⟩
def d__law_whole : He.DefD := ⟨("_law_whole", none), "_law_whole", "_law_whole", defArgs s__law_whole, defBody s__law_whole, defScope s__law_whole, [], []⟩
def d_spread : He.DefD := ⟨("spread", none), "spread", "spread", defArgs s_spread, defBody s_spread, defScope s_spread, [], []⟩
def d__law_laid_over : He.DefD := ⟨("_law_laid_over", none), "_law_laid_over", "_law_laid_over", defArgs s__law_laid_over, defBody s__law_laid_over, defScope s__law_laid_over, [], []⟩
def d__law_spread : He.DefD := ⟨("_law_spread", none), "_law_spread", "_law_spread", defArgs s__law_spread, defBody s__law_spread, defScope s__law_spread, [], []⟩
def d_row_in : He.DefD := ⟨("row_in", none), "row_in", "row_in", defArgs s_row_in, defBody s_row_in, defScope s_row_in, [], []⟩
def d_law : He.DefD := ⟨("law", none), "law", "law", defArgs s_law, defBody s_law, defScope s_law, [], []⟩
def fn : List He.DefD := [d__law_mixed, d__law_sign, d__law_key, d__law_other, d__law_whole, d_spread, d__law_laid_over, d__law_spread, d_row_in, d_law]
def fa : List He.Fa := [.free "bool", .free "int", .free "isinstance", .free "len", .free "ord", .free "range", .glo "_law_mixed", .glo "_law_sign", .glo "_law_key", .glo "_law_other", .glo "_law_whole", .glo "spread", .glo "_law_laid_over", .glo "_law_spread", .glo "row_in", .glo "law"]
def loose : List PySem.Str := (["spread", "row_in", "_law_cell_at", "_law_mixed", "_law_sign", "_law_key", "_law_other", "_law_laid_over", "_law_spread", "_law_whole"] : List PySem.Str)
abbrev Ro : PySem.W.OpenRow := PySem.W.OpenLaw.row PySem.Challenge.rw_lettercell_k02_rows_of_keys
abbrev hk : PySem.W.Hook := He.hookD 4 fa fn
def ob (s : PySem.W.SharedT) : He.AlD := He.obsDG 4 fa fn (HandSHeadRun.getT s)
theorem ob_eq (s : PySem.W.SharedT) : ob s = hk.obs s.abs := He.obsDG_eq (HandSHeadRun.getT_eq s)
theorem run (w : World) : HandSHeadRun.RunEq Ro (PySem.W.view Ro.prog [12]) hk ob 4000 loose w := by
  intro os
  kernel_rfl
theorem tx {h : Heap} {K : PySem.W.Frag} {mg : Str → Option Value} (X : K.In h) (G : h.Ns mainGlobals mg) (c : He.SaysD fa fn K) : Tx K mg where
  n_bool := He.free_ok X G (c.fact 0 (f := .free "bool") rfl)
  n_int := He.free_ok X G (c.fact 1 (f := .free "int") rfl)
  n_isinstance := He.free_ok X G (c.fact 2 (f := .free "isinstance") rfl)
  n_len := He.free_ok X G (c.fact 3 (f := .free "len") rfl)
  n_ord := He.free_ok X G (c.fact 4 (f := .free "ord") rfl)
  n_range := He.free_ok X G (c.fact 5 (f := .free "range") rfl)
  g__law_mixed := He.glo_ok X G (c.fact 6 (f := .glo "_law_mixed") rfl)
  d__law_mixed := c.def_ 0 (d := d__law_mixed) rfl
  g__law_sign := He.glo_ok X G (c.fact 7 (f := .glo "_law_sign") rfl)
  d__law_sign := c.def_ 1 (d := d__law_sign) rfl
  g__law_key := He.glo_ok X G (c.fact 8 (f := .glo "_law_key") rfl)
  d__law_key := c.def_ 2 (d := d__law_key) rfl
  g__law_other := He.glo_ok X G (c.fact 9 (f := .glo "_law_other") rfl)
  d__law_other := c.def_ 3 (d := d__law_other) rfl
  g__law_whole := He.glo_ok X G (c.fact 10 (f := .glo "_law_whole") rfl)
  d__law_whole := c.def_ 4 (d := d__law_whole) rfl
  g_spread := He.glo_ok X G (c.fact 11 (f := .glo "spread") rfl)
  d_spread := c.def_ 5 (d := d_spread) rfl
  g__law_laid_over := He.glo_ok X G (c.fact 12 (f := .glo "_law_laid_over") rfl)
  d__law_laid_over := c.def_ 6 (d := d__law_laid_over) rfl
  g__law_spread := He.glo_ok X G (c.fact 13 (f := .glo "_law_spread") rfl)
  d__law_spread := c.def_ 7 (d := d__law_spread) rfl
  g_row_in := He.glo_ok X G (c.fact 14 (f := .glo "row_in") rfl)
  d_row_in := c.def_ 8 (d := d_row_in) rfl
  g_law := He.glo_ok X G (c.fact 15 (f := .glo "law") rfl)
  d_law := c.def_ 9 (d := d_law) rfl
end LawM
namespace LawM
open PySem DM
theorem mixed_eq (c k : Int) (mu : Mu) : f__law_mixed [.int c, .int k] mu = .ok (.int (mix c k)) mu := mixB_eq c k mu
theorem sign_eq (n : Int) (mu : Mu) : f__law_sign [.int n, .int 94] mu = .ok (.str [sgn n 94]) mu := sgB_eq n 94 mu (by decide) (by decide)
theorem sgn_lt (n : Int) : sgn n 94 < 128 := by
  have h : ∀ k, k < 94 → sgT.getD k 0 < 128 := by decide +kernel
  exact h _ (by omega)
def size (c : Int) : Nat := 1 + (mix c 1 % 24).toNat
def key (c : Int) : List Nat := (List.range (size c)).map fun (k : Nat) => sgn (mix c (40 + (k : Int))) 94
theorem size_le (c : Int) : size c ≤ 24 := by unfold size; omega
theorem key_len (c : Int) : (key c).length = size c := by unfold key; simp
theorem key_lt (c : Int) : ∀ x, x ∈ key c → x < 128 := fun x hx => by
  obtain ⟨k, _, rfl⟩ := List.mem_map.1 hx
  exact sgn_lt _
theorem key_eq (c : Int) (mu : Mu) : f__law_key [.int c] mu = .ok (.str (key c)) mu := by
  have s1 : DM.gMod (.int (mix c 1)) (.int 24) mu = some (.int (mix c 1 % 24)) := g_mod (by decide)
  have s2 : gAdd (.int 1) (.int (mix c 1 % 24)) mu = some (.int (size c)) := by
    rw [g_add]
    have := mix_nn c 1
    unfold size
    rw [show (1 : Int) + mix c 1 % 24 = ((1 + (mix c 1 % 24).toNat : Nat) : Int) by omega]
  have s3 : gJoin (.str []) (.lst ((key c).map fun c => DV.str [c])) mu = some (.str (key c)) := gJoin_one (by rw [key_len]; have := size_le c; omega)
  refine runF_rt rfl (es_seq (m1 := mu) (es_set (d := .int (size c)) ?_) (es_ret (ev_m1 (a := []) (m1 := mu) ev_c ((eComp_map (xs := (List.range (size c)).map fun (u : Nat) => DV.int (u : Int)) (m1 := mu) (g := fun x => match x with | .int k => .str [sgn (mix c (40 + k)) 94] | d => d) ?_ (fun x hx => ?_) (by have := size_le c; simp; omega)).trans ?_) s3)))
  · repeat (first | (with_reducible apply ev_var; exact rfl) | with_reducible exact ev_c | with_reducible exact mixed_eq c 1 mu | with_reducible exact s1 | with_reducible exact s2 | with_reducible apply ev_op | with_reducible apply ev_cb | with_reducible apply ev_call0 | with_reducible exact ea_nil | with_reducible apply ea_cons | with_reducible apply ev_B | with_reducible apply ev_not | with_reducible apply ev_I | with_reducible apply ev_sl | with_reducible apply ev_m1 | with_reducible apply ev_neg | with_reducible apply ev_tup | with_reducible apply ev_lst | with_reducible apply ev_tru | with_reducible assumption | exact rfl)
  · refine (it_rng (m1 := mu) (j := size c) (ea_cons (ev_var rfl) ea_nil) (by have := size_le c; omega)).trans ?_
    rw [Int.toNat_natCast]
  · obtain ⟨k, _, rfl⟩ := List.mem_map.1 hx
    refine ⟨_, rfl, ?_⟩
    repeat (first | (with_reducible apply ev_var; exact rfl) | with_reducible exact ev_c | with_reducible exact mixed_eq c (40 + (k : Int)) mu | with_reducible exact sign_eq (mix c (40 + (k : Int))) mu | with_reducible exact g_add | with_reducible apply ev_op | with_reducible apply ev_cb | with_reducible apply ev_call0 | with_reducible exact ea_nil | with_reducible apply ea_cons | with_reducible apply ev_B | with_reducible apply ev_not | with_reducible apply ev_I | with_reducible apply ev_sl | with_reducible apply ev_m1 | with_reducible apply ev_neg | with_reducible apply ev_tup | with_reducible apply ev_lst | with_reducible apply ev_tru | with_reducible assumption | exact rfl)
  · unfold key
    rw [List.map_map, List.map_map]
    rfl
/-! the other key -/
def at_ (c : Int) : Nat := (mix c 2 % (size c : Int)).toNat
def other (c : Int) : List Nat := (key c).take (at_ c) ++ [sgn (mix c 3) 94] ++ (key c).drop (at_ c + 1)
theorem other_eq (c : Int) (mu : Mu) : f__law_other [.str (key c), .int c] mu = .ok (.str (other c)) mu := by
  have hs := size_le c
  have hl := key_len c
  have h0 : 0 < (size c : Int) := by unfold size; omega
  have hk : (key c).length ≤ 1000000 := by omega
  have s1 : DM.gMod (.int (mix c 2)) (.int (size c)) mu = some (.int (at_ c)) := by
    rw [g_mod h0]
    unfold at_
    rw [Int.toNat_of_nonneg (Int.emod_nonneg _ (by omega))]
  have s2 : gLen [.str (key c)] mu = some (.int (size c)) := by rw [gLen_str hk, hl]
  have s3 : gSl (.str (key c)) none (some (at_ c : Int)) mu = some (.str ((key c).take (at_ c))) := gSl_to _ hk
  have s4 : gSl (.str (key c)) (some ((at_ c : Int) + 1)) none mu = some (.str ((key c).drop (at_ c + 1))) := gSl_from (at_ c + 1) hk
  have l1 : ((key c).take (at_ c)).length ≤ 24 := by rw [List.length_take]; omega
  have l2 : ((key c).drop (at_ c + 1)).length ≤ 24 := by rw [List.length_drop]; omega
  have s5 : gAdd (.str ((key c).take (at_ c))) (.str [sgn (mix c 3) 94]) mu = some (.str ((key c).take (at_ c) ++ [sgn (mix c 3) 94])) := gAdd_str (by show _ + 1 ≤ _; omega)
  have s6 : gAdd (.str ((key c).take (at_ c) ++ [sgn (mix c 3) 94])) (.str ((key c).drop (at_ c + 1))) mu = some (.str (other c)) := gAdd_str (by rw [List.length_append]; show _ + 1 + _ ≤ _; omega)
  refine runF_rt rfl (es_seq (m1 := mu) (es_set (d := .int (at_ c)) ?_) (es_ret ?_))
  · repeat (first | (with_reducible apply ev_var; exact rfl) | with_reducible exact ev_c | with_reducible exact mixed_eq c 2 mu | with_reducible exact s1 | with_reducible exact s2 | with_reducible apply ev_op | with_reducible apply ev_cb | with_reducible apply ev_call0 | with_reducible exact ea_nil | with_reducible apply ea_cons | with_reducible apply ev_B | with_reducible apply ev_not | with_reducible apply ev_I | with_reducible apply ev_sl | with_reducible apply ev_m1 | with_reducible apply ev_neg | with_reducible apply ev_tup | with_reducible apply ev_lst | with_reducible apply ev_tru | with_reducible assumption | exact rfl)
  · repeat (first | (with_reducible apply ev_var; exact rfl) | with_reducible exact ev_c | with_reducible exact mixed_eq c 3 mu | with_reducible exact sign_eq (mix c 3) mu | with_reducible exact s3 | with_reducible exact s4 | with_reducible exact s5 | with_reducible exact s6 | with_reducible exact g_add | with_reducible apply ev_op | with_reducible apply ev_cb | with_reducible apply ev_call0 | with_reducible exact ea_nil | with_reducible apply ea_cons | with_reducible apply ev_B | with_reducible apply ev_not | with_reducible apply ev_I | with_reducible apply ev_sl | with_reducible apply ev_m1 | with_reducible apply ev_neg | with_reducible apply ev_tup | with_reducible apply ev_lst | with_reducible apply ev_tru | with_reducible assumption | exact rfl)
theorem other_lt (c : Int) : ∀ x, x ∈ other c → x < 128 := fun x hx => by
  rcases List.mem_append.1 hx with hx | hx
  · rcases List.mem_append.1 hx with hx | hx
    · exact key_lt c x (List.mem_of_mem_take hx)
    · rw [List.mem_singleton.1 hx]; exact sgn_lt _
  · exact key_lt c x (List.mem_of_mem_drop hx)
/-! what is spread -/
def S (l : List Nat) : Nat := l.foldl (fun m c => (m * 37 + c) % 65536) 1
def sp (l : List Nat) : Nat := S l ^^^ (S l / 256)
theorem S_lt' (l : List Nat) : ∀ m, m < 65536 → l.foldl (fun m c => (m * 37 + c) % 65536) m < 65536 := by
  induction l with
  | nil => exact fun m h => h
  | cons c l ih => exact fun m h => ih _ (Nat.mod_lt _ (by decide))
theorem S_lt (l : List Nat) : S l < 65536 := S_lt' l 1 (by decide)
theorem spread_eq (l : List Nat) (mu : Mu) : f_spread [.str l] mu = .ok (.int (sp l)) mu := by
  obtain ⟨dl, m', e, ⟨rfl, z, rfl⟩, hb⟩ := sFor_fold (α := Nat) (β := Nat) (f := iSeq (eVar 0)) (t := tgN 2) (body := sSet 1 (eOp gAnd (eOp gAdd (eOp gMul (eVar 1) (eC (.int 37))) (eCB gOrd [(eVar 2)])) (eC (.int 65535))))
    (J := fun b dl m => (m = mu ∧ ∃ z, dl = [some (.str l), some (.int (b : Int)), z]) ∧ b < 65536) (step := fun m c => (m * 37 + c) % 65536) (xs := l) (dv := fun c => .str [c]) (b := 1) (dl := [some (.str l), some (.int 1), none]) (mu := mu) (m1 := mu) (it_seq (ev_var rfl) rfl) ⟨⟨rfl, none, rfl⟩, by decide⟩ (by
      rintro c b dl m hc ⟨⟨rfl, z, rfl⟩, hb⟩
      have s1 : DM.gMul (.int b) (.int 37) m = some (.int ((b : Int) * 37)) := g_mul2 (by decide)
      have s2 : gOrd [.str [c]] m = some (.int c) := rfl
      have s3 : DM.gAnd (.int ((b : Int) * 37 + c)) (.int 65535) m = some (.int (((b * 37 + c) % 65536 : Nat) : Int)) := by
        show some (DV.int (Builtin.bitAnd _ _)) = _
        rw [show (b : Int) * 37 + c = ((b * 37 + c : Nat) : Int) by omega, show (65535 : Int) = ((65535 : Nat) : Int) from rfl, nat_band, and_low16]
      refine ⟨_, rfl, _, m, .inl (es_set (d := .int (((b * 37 + c) % 65536 : Nat) : Int)) ?_), ⟨rfl, some (.str [c]), rfl⟩, Nat.mod_lt _ (by decide)⟩
      repeat (first | (with_reducible apply ev_var; exact rfl) | with_reducible exact ev_c | with_reducible exact s1 | with_reducible exact s2 | with_reducible exact s3 | with_reducible exact g_add | with_reducible apply ev_op | with_reducible apply ev_cb | with_reducible apply ev_call0 | with_reducible exact ea_nil | with_reducible apply ea_cons | with_reducible apply ev_B | with_reducible apply ev_not | with_reducible apply ev_I | with_reducible apply ev_sl | with_reducible apply ev_m1 | with_reducible apply ev_neg | with_reducible apply ev_tup | with_reducible apply ev_lst | with_reducible apply ev_tru | with_reducible assumption | exact rfl))
  rw [show List.foldl (fun m c => (m * 37 + c) % 65536) 1 l = S l from rfl] at e
  have s1 : DM.gShr (.int (S l)) (.int 8) m' = some (.int ((S l / 256 : Nat) : Int)) := by
    refine (gI_pos (by decide)).trans ?_
    rw [show (2 : Int) ^ (8 : Int).toNat = 256 by decide]
    rw [show ((S l : Int) / 256) = ((S l / 256 : Nat) : Int) by omega]
  have s2 : DM.gXor (.int (S l)) (.int ((S l / 256 : Nat) : Int)) m' = some (.int (sp l)) := by
    show some (DV.int (Builtin.bitXor _ _)) = _
    rw [nat_bxor]
    rfl
  refine runF_rt rfl (es_seq (m1 := m') (es_set ev_c) (es_seq e (es_ret (d := .int (sp l)) ?_)))
  repeat (first | (with_reducible apply ev_var; exact rfl) | with_reducible exact ev_c | with_reducible exact s1 | with_reducible exact s2 | with_reducible apply ev_op | with_reducible apply ev_cb | with_reducible apply ev_call0 | with_reducible exact ea_nil | with_reducible apply ea_cons | with_reducible apply ev_B | with_reducible apply ev_not | with_reducible apply ev_I | with_reducible apply ev_sl | with_reducible apply ev_m1 | with_reducible apply ev_neg | with_reducible apply ev_tup | with_reducible apply ev_lst | with_reducible apply ev_tru | with_reducible assumption | exact rfl)
def bitd (x y : Nat) : Nat := if x % 2 ≠ y % 2 then 1 else 0
theorem xor_step (x y : Nat) : x ^^^ y = 2 * (x / 2 ^^^ y / 2) + bitd x y := by
  have h1 : (x ^^^ y) / 2 = x / 2 ^^^ y / 2 := Nat.xor_div_two_pow (n := 1)
  have h2 : (x ^^^ y) % 2 = x % 2 ^^^ y % 2 := Nat.xor_mod_two_pow (n := 1)
  have h3 : x % 2 ^^^ y % 2 = bitd x y := by
    unfold bitd
    rcases Nat.mod_two_eq_zero_or_one x with hx | hx <;> rcases Nat.mod_two_eq_zero_or_one y with hy | hy <;> rw [hx, hy] <;> decide
  have := Nat.div_add_mod (x ^^^ y) 2
  rw [h1, h2, h3] at this
  omega
def lay (a b : Nat) : Nat := [1, 2, 4, 8, 16, 32, 64, 128].foldl (fun s w => s + w * bitd (a / w) (b / w)) 0
theorem lay_eq (a b : Nat) (ha : a < 256) (hb : b < 256) : lay a b = a ^^^ b := by
  have e0 := xor_step a b
  have e1 := xor_step (a / 2) (b / 2)
  have e2 := xor_step (a / 4) (b / 4)
  have e3 := xor_step (a / 8) (b / 8)
  have e4 := xor_step (a / 16) (b / 16)
  have e5 := xor_step (a / 32) (b / 32)
  have e6 := xor_step (a / 64) (b / 64)
  have e7 := xor_step (a / 128) (b / 128)
  simp only [Nat.div_div_eq_div_mul, Nat.reduceMul] at e0 e1 e2 e3 e4 e5 e6 e7
  rw [Nat.div_eq_of_lt ha, Nat.div_eq_of_lt hb] at e7
  simp only [Nat.xor_self] at e7
  unfold lay
  simp only [List.foldl, Nat.div_one]
  omega
theorem laid_eq (a b : Nat) (ha : a < 256) (hb : b < 256) (mu : Mu) : f__law_laid_over [.int a, .int b] mu = .ok (.int (a ^^^ b : Nat)) mu := by
  obtain ⟨dl, m', e, rfl, z, rfl⟩ := sFor_fold (α := Nat) (β := Nat) (f := iSeq (eLst [(eC (.int 1)), (eC (.int 2)), (eC (.int 4)), (eC (.int 8)), (eC (.int 16)), (eC (.int 32)), (eC (.int 64)), (eC (.int 128))])) (t := tgN 3) (body := (sIf (eB (eOp gNe (eOp gMod (eOp gDiv (eVar 0) (eVar 3)) (eC (.int 2))) (eOp gMod (eOp gDiv (eVar 1) (eVar 3)) (eC (.int 2)))))
  (sSet 2 (eOp gAdd (eVar 2) (eVar 3)))
  sNext))
    (J := fun s dl m => m = mu ∧ ∃ z, dl = [some (.int a), some (.int b), some (.int (s : Int)), z]) (step := fun s w => s + w * bitd (a / w) (b / w)) (xs := [1, 2, 4, 8, 16, 32, 64, 128]) (dv := fun w => .int (w : Int)) (b := 0) (dl := [some (.int a), some (.int b), some (.int 0), none]) (mu := mu) (m1 := mu)
    (it_seq (d := .lst ([1, 2, 4, 8, 16, 32, 64, 128].map fun w : Nat => DV.int (w : Int))) (m1 := mu) (ev_lst (ea_cons ev_c (ea_cons ev_c (ea_cons ev_c (ea_cons ev_c (ea_cons ev_c (ea_cons ev_c (ea_cons ev_c (ea_cons ev_c ea_nil)))))))) (by decide)) rfl) ⟨rfl, none, rfl⟩ (by
      rintro w s dl m hw ⟨rfl, z, rfl⟩
      have hw2 : 0 < w ∧ w < 1000 := by
        have : ∀ w, w ∈ [1, 2, 4, 8, 16, 32, 64, 128] → 0 < w ∧ w < 1000 := by decide
        exact this w hw
      have s1 : DM.gDiv (.int a) (.int w) m = some (.int ((a / w : Nat) : Int)) := by rw [g_div (by omega)]; rfl
      have s2 : DM.gDiv (.int b) (.int w) m = some (.int ((b / w : Nat) : Int)) := by rw [g_div (by omega)]; rfl
      have s3 : DM.gMod (.int ((a / w : Nat) : Int)) (.int 2) m = some (.int ((a / w % 2 : Nat) : Int)) := by rw [g_mod (by decide)]; rfl
      have s4 : DM.gMod (.int ((b / w : Nat) : Int)) (.int 2) m = some (.int ((b / w % 2 : Nat) : Int)) := by rw [g_mod (by decide)]; rfl
      by_cases h : a / w % 2 = b / w % 2
      · have s5 : DM.gNe (.int ((a / w % 2 : Nat) : Int)) (.int ((b / w % 2 : Nat) : Int)) m = some (.bl false) := by rw [g_ne, decide_eq_true (by omega)]; rfl
        refine ⟨_, rfl, _, m, .inl (es_if_f (m1 := m) ?_ es_nx), rfl, some (.int w), ?_⟩
        · repeat (first | (with_reducible apply ev_var; exact rfl) | with_reducible exact ev_c | with_reducible exact s1 | with_reducible exact s2 | with_reducible exact s3 | with_reducible exact s4 | with_reducible exact s5 | with_reducible apply ev_op | with_reducible apply ev_cb | with_reducible apply ev_call0 | with_reducible exact ea_nil | with_reducible apply ea_cons | with_reducible apply ev_B | with_reducible apply ev_not | with_reducible apply ev_I | with_reducible apply ev_sl | with_reducible apply ev_m1 | with_reducible apply ev_neg | with_reducible apply ev_tup | with_reducible apply ev_lst | with_reducible apply ev_tru | with_reducible assumption | exact rfl)
        · unfold bitd
          rw [if_neg (by simp [h])]
          rfl
      · have s5 : DM.gNe (.int ((a / w % 2 : Nat) : Int)) (.int ((b / w % 2 : Nat) : Int)) m = some (.bl true) := by rw [g_ne, decide_eq_false (by omega)]; rfl
        refine ⟨_, rfl, _, m, .inl (es_if_t (m1 := m) ?_ (es_set (d := .int ((s + w : Nat) : Int)) ?_)), rfl, some (.int w), ?_⟩
        · repeat (first | (with_reducible apply ev_var; exact rfl) | with_reducible exact ev_c | with_reducible exact s1 | with_reducible exact s2 | with_reducible exact s3 | with_reducible exact s4 | with_reducible exact s5 | with_reducible apply ev_op | with_reducible apply ev_cb | with_reducible apply ev_call0 | with_reducible exact ea_nil | with_reducible apply ea_cons | with_reducible apply ev_B | with_reducible apply ev_not | with_reducible apply ev_I | with_reducible apply ev_sl | with_reducible apply ev_m1 | with_reducible apply ev_neg | with_reducible apply ev_tup | with_reducible apply ev_lst | with_reducible apply ev_tru | with_reducible assumption | exact rfl)
        · repeat (first | (with_reducible apply ev_var; exact rfl) | with_reducible exact ev_c | with_reducible exact g_add | with_reducible apply ev_op | with_reducible apply ev_cb | with_reducible apply ev_call0 | with_reducible exact ea_nil | with_reducible apply ea_cons | with_reducible apply ev_B | with_reducible apply ev_not | with_reducible apply ev_I | with_reducible apply ev_sl | with_reducible apply ev_m1 | with_reducible apply ev_neg | with_reducible apply ev_tup | with_reducible apply ev_lst | with_reducible apply ev_tru | with_reducible assumption | exact rfl)
        · unfold bitd
          rw [if_pos (by simp [h]), Nat.mul_one]
          rfl)
  have el : (lay a b : Nat) = a ^^^ b := lay_eq a b ha hb
  refine runF_rt rfl (es_seq (m1 := m') (es_set ev_c) (es_seq e (es_ret (d := .int ((a ^^^ b : Nat) : Int)) ?_)))
  rw [← el]
  exact ev_var rfl
theorem sp_split (n : Nat) (h : n < 65536) : 256 * (n / 256) + (n % 256 ^^^ n / 256) = n ^^^ n / 256 := by
  have h1 : (n ^^^ n / 256) / 256 = n / 256 ^^^ n / 256 / 256 := Nat.xor_div_two_pow (n := 8)
  have h2 : (n ^^^ n / 256) % 256 = n % 256 ^^^ n / 256 % 256 := Nat.xor_mod_two_pow (n := 8)
  rw [Nat.div_eq_of_lt (a := n / 256) (by omega), Nat.xor_zero] at h1
  rw [Nat.mod_eq_of_lt (a := n / 256) (by omega)] at h2
  have := Nat.div_add_mod (n ^^^ n / 256) 256
  omega
theorem lspread_eq (l : List Nat) (mu : Mu) : f__law_spread [.str l] mu = .ok (.int (sp l)) mu := by
  obtain ⟨dl, m', e, ⟨rfl, z, rfl⟩, hb⟩ := sFor_fold (α := Nat) (β := Nat) (f := iSeq (eVar 0)) (t := tgN 2) (body := (sSet 1 (eOp gMod (eOp gAdd (eOp gMul (eC (.int 37)) (eVar 1)) (eCB gOrd [(eVar 2)])) (eC (.int 65536)))))
    (J := fun b dl m => (m = mu ∧ ∃ z, dl = [some (.str l), some (.int (b : Int)), z, none]) ∧ b < 65536) (step := fun m c => (m * 37 + c) % 65536) (xs := l) (dv := fun c => .str [c]) (b := 1) (dl := [some (.str l), some (.int 1), none, none]) (mu := mu) (m1 := mu) (it_seq (ev_var rfl) rfl) ⟨⟨rfl, none, rfl⟩, by decide⟩ (by
      rintro c b dl m hc ⟨⟨rfl, z, rfl⟩, hb⟩
      have s1 : DM.gMul (.int 37) (.int b) m = some (.int (37 * (b : Int))) := g_mul1 (by decide)
      have s2 : gOrd [.str [c]] m = some (.int c) := rfl
      have s3 : DM.gMod (.int (37 * (b : Int) + c)) (.int 65536) m = some (.int (((b * 37 + c) % 65536 : Nat) : Int)) := by
        rw [g_mod (by decide), show 37 * (b : Int) + c = ((b * 37 + c : Nat) : Int) by omega]
        rfl
      refine ⟨_, rfl, _, m, .inl (es_set (d := .int (((b * 37 + c) % 65536 : Nat) : Int)) ?_), ⟨rfl, some (.str [c]), rfl⟩, Nat.mod_lt _ (by decide)⟩
      repeat (first | (with_reducible apply ev_var; exact rfl) | with_reducible exact ev_c | with_reducible exact s1 | with_reducible exact s2 | with_reducible exact s3 | with_reducible exact g_add | with_reducible apply ev_op | with_reducible apply ev_cb | with_reducible apply ev_call0 | with_reducible exact ea_nil | with_reducible apply ea_cons | with_reducible apply ev_B | with_reducible apply ev_not | with_reducible apply ev_I | with_reducible apply ev_sl | with_reducible apply ev_m1 | with_reducible apply ev_neg | with_reducible apply ev_tup | with_reducible apply ev_lst | with_reducible apply ev_tru | with_reducible assumption | exact rfl))
  have hS := S_lt l
  rw [show List.foldl (fun m c => (m * 37 + c) % 65536) 1 l = S l from rfl] at e
  have s1 : DM.gDiv (.int (S l)) (.int 256) m' = some (.int ((S l / 256 : Nat) : Int)) := by rw [g_div (by decide)]; rfl
  have s2 : DM.gMul (.int 256) (.int ((S l / 256 : Nat) : Int)) m' = some (.int (256 * ((S l / 256 : Nat) : Int))) := g_mul1 (by decide)
  have s3 : DM.gMod (.int (S l)) (.int 256) m' = some (.int ((S l % 256 : Nat) : Int)) := by rw [g_mod (by decide)]; rfl
  have s4 := laid_eq (S l % 256) (S l / 256) (by omega) (by omega) m'
  have s5 : gAdd (.int (256 * ((S l / 256 : Nat) : Int))) (.int ((S l % 256 ^^^ S l / 256 : Nat) : Int)) m' = some (.int (sp l)) := by
    rw [g_add]
    have := sp_split (S l) hS
    unfold sp
    rw [← this]
    rfl
  refine runF_rt rfl (es_seq (m1 := m') (es_set ev_c) (es_seq e (es_seq (m1 := m') (es_set (d := .int ((S l / 256 : Nat) : Int)) ?_) (es_ret (d := .int (sp l)) ?_))))
  · repeat (first | (with_reducible apply ev_var; exact rfl) | with_reducible exact ev_c | with_reducible exact s1 | with_reducible apply ev_op | with_reducible apply ev_cb | with_reducible apply ev_call0 | with_reducible exact ea_nil | with_reducible apply ea_cons | with_reducible apply ev_B | with_reducible apply ev_not | with_reducible apply ev_I | with_reducible apply ev_sl | with_reducible apply ev_m1 | with_reducible apply ev_neg | with_reducible apply ev_tup | with_reducible apply ev_lst | with_reducible apply ev_tru | with_reducible assumption | exact rfl)
  · repeat (first | (with_reducible apply ev_var; exact rfl) | with_reducible exact ev_c | with_reducible exact s2 | with_reducible exact s3 | with_reducible exact s4 | with_reducible exact s5 | with_reducible apply ev_op | with_reducible apply ev_cb | with_reducible apply ev_call0 | with_reducible exact ea_nil | with_reducible apply ea_cons | with_reducible apply ev_B | with_reducible apply ev_not | with_reducible apply ev_I | with_reducible apply ev_sl | with_reducible apply ev_m1 | with_reducible apply ev_neg | with_reducible apply ev_tup | with_reducible apply ev_lst | with_reducible apply ev_tru | with_reducible assumption | exact rfl)
theorem row_eq (l : List Nat) (m : Nat) (hm : 0 < m) (mu : Mu) : f_row_in [.str l, .int m] mu = .ok (.int ((sp l : Int) % m)) mu := by
  have s1 : DM.gMod (.int (sp l)) (.int m) mu = some (.int ((sp l : Int) % m)) := g_mod (by omega)
  refine runF_rt rfl (es_ret ?_)
  repeat (first | (with_reducible apply ev_var; exact rfl) | with_reducible exact ev_c | with_reducible exact spread_eq l mu | with_reducible exact s1 | with_reducible apply ev_op | with_reducible apply ev_cb | with_reducible apply ev_call0 | with_reducible exact ea_nil | with_reducible apply ea_cons | with_reducible apply ev_B | with_reducible apply ev_not | with_reducible apply ev_I | with_reducible apply ev_sl | with_reducible apply ev_m1 | with_reducible apply ev_neg | with_reducible apply ev_tup | with_reducible apply ev_lst | with_reducible apply ev_tru | with_reducible assumption | exact rfl)
def bodyL : DS := (sSeq (sSet 2 (eCall f__law_key [(eVar 1)] []))
  (sSeq (sSet 3 (eCall f__law_other [(eVar 2), (eVar 1)] []))
  (sSeq (sSet 4 (eOp gAdd (eC (.int 1)) (eOp gMod (eCall f__law_mixed [(eVar 1), (eC (.int 4))] []) (eOp gIx (eLst [(eC (.int 9)), (eOp gPow (eC (.int 10)) (eC (.int 9)))]) (eOp gMod (eCall f__law_mixed [(eVar 1), (eC (.int 5))] []) (eC (.int 2)))))))
  (sSeq (sIf (eNot (eTru (eCall f__law_whole [(eCall f_spread [(eVar 2)] []), (eCall f__law_spread [(eVar 2)] [])] [])))
  (sRet (eC (.bl false)))
  sNext)
  (sSeq (sIf (eNot (eTru (eCall f__law_whole [(eCall f_spread [(eVar 3)] []), (eCall f__law_spread [(eVar 3)] [])] [])))
  (sRet (eC (.bl false)))
  sNext)
  (sSeq (sIf (eNot (eTru (eCall f__law_whole [(eCall f_row_in [(eVar 2), (eVar 4)] []), (eOp gMod (eCall f__law_spread [(eVar 2)] []) (eVar 4))] [])))
  (sRet (eC (.bl false)))
  sNext)
  (sSeq (sIf (eNot (eTru (eCall f__law_whole [(eCall f_row_in [(eVar 3), (eVar 4)] []), (eOp gMod (eCall f__law_spread [(eVar 3)] []) (eVar 4))] [])))
  (sRet (eC (.bl false)))
  sNext)
  (sIf (eNot (eTru (eCall f__law_whole [(eCall f_spread [(eVar 2)] []), (eCall f__law_spread [(eVar 2)] [])] [])))
  (sRet (eC (.bl false)))
  sNext))))))))
theorem turn_k (s : DV) (c : Int) (x y z : Option DV) (mu : Mu) : ∃ x' y' z', bodyL [some s, some (.int c), x, y, z] mu = .nx [some s, some (.int c), x', y', z'] mu := by
  obtain ⟨many, hm, e1⟩ : ∃ many : Nat, 0 < many ∧ (eOp gAdd (eC (.int 1)) (eOp gMod (eCall f__law_mixed [(eVar 1), (eC (.int 4))] []) (eOp gIx (eLst [(eC (.int 9)), (eOp gPow (eC (.int 10)) (eC (.int 9)))]) (eOp gMod (eCall f__law_mixed [(eVar 1), (eC (.int 5))] []) (eC (.int 2)))))) [some s, some (.int c), some (.str (key c)), some (.str (other c)), z] mu = .ok (.int many) mu := by
    have p : DM.gPow (.int 10) (.int 9) mu = some (.int 1000000000) := (gI_pos (by decide)).trans (by rw [show (10 : Int) ^ (9 : Int).toNat = 1000000000 by decide])
    have s1 : DM.gMod (.int (mix c 5)) (.int 2) mu = some (.int (mix c 5 % 2)) := g_mod (by decide)
    have l2 : ([DV.int 9, DV.int 1000000000]).length ≤ 1000000 := by simp
    have nn := mix_nn c 4
    rcases (by omega : mix c 5 % 2 = 0 ∨ mix c 5 % 2 = 1) with h | h
    · rw [h] at s1
      have s2 : gIx (.lst [.int 9, .int 1000000000]) (.int 0) mu = some (.int 9) := gIx_lst (z := [.int 9, .int 1000000000]) (j := 0) rfl
      have s3 : DM.gMod (.int (mix c 4)) (.int 9) mu = some (.int (mix c 4 % 9)) := g_mod (by decide)
      have s4 : gAdd (.int 1) (.int (mix c 4 % 9)) mu = some (.int ((1 + (mix c 4 % 9).toNat : Nat) : Int)) := by
        rw [g_add, show (1 : Int) + mix c 4 % 9 = ((1 + (mix c 4 % 9).toNat : Nat) : Int) by omega]
      refine ⟨1 + (mix c 4 % 9).toNat, by omega, ?_⟩
      repeat (first | (with_reducible apply ev_var; exact rfl) | with_reducible exact ev_c | with_reducible exact mixed_eq c 4 mu | with_reducible exact mixed_eq c 5 mu | with_reducible exact p | with_reducible exact s1 | with_reducible exact s2 | with_reducible exact s3 | with_reducible exact s4 | with_reducible exact l2 | with_reducible apply ev_op | with_reducible apply ev_cb | with_reducible apply ev_call0 | with_reducible exact ea_nil | with_reducible apply ea_cons | with_reducible apply ev_B | with_reducible apply ev_not | with_reducible apply ev_I | with_reducible apply ev_sl | with_reducible apply ev_m1 | with_reducible apply ev_neg | with_reducible apply ev_tup | with_reducible apply ev_lst | with_reducible apply ev_tru | with_reducible assumption | exact rfl)
    · rw [h] at s1
      have s2 : gIx (.lst [.int 9, .int 1000000000]) (.int 1) mu = some (.int 1000000000) := gIx_lst (z := [.int 9, .int 1000000000]) (j := 1) rfl
      have s3 : DM.gMod (.int (mix c 4)) (.int 1000000000) mu = some (.int (mix c 4 % 1000000000)) := g_mod (by decide)
      have s4 : gAdd (.int 1) (.int (mix c 4 % 1000000000)) mu = some (.int ((1 + (mix c 4 % 1000000000).toNat : Nat) : Int)) := by
        rw [g_add, show (1 : Int) + mix c 4 % 1000000000 = ((1 + (mix c 4 % 1000000000).toNat : Nat) : Int) by omega]
      refine ⟨1 + (mix c 4 % 1000000000).toNat, by omega, ?_⟩
      repeat (first | (with_reducible apply ev_var; exact rfl) | with_reducible exact ev_c | with_reducible exact mixed_eq c 4 mu | with_reducible exact mixed_eq c 5 mu | with_reducible exact p | with_reducible exact s1 | with_reducible exact s2 | with_reducible exact s3 | with_reducible exact s4 | with_reducible exact l2 | with_reducible apply ev_op | with_reducible apply ev_cb | with_reducible apply ev_call0 | with_reducible exact ea_nil | with_reducible apply ea_cons | with_reducible apply ev_B | with_reducible apply ev_not | with_reducible apply ev_I | with_reducible apply ev_sl | with_reducible apply ev_m1 | with_reducible apply ev_neg | with_reducible apply ev_tup | with_reducible apply ev_lst | with_reducible apply ev_tru | with_reducible assumption | exact rfl)
  have a1 := key_eq c mu
  have a2 := other_eq c mu
  have b1 := spread_eq (key c) mu
  have b2 := lspread_eq (key c) mu
  have b3 := spread_eq (other c) mu
  have b4 := lspread_eq (other c) mu
  have b5 := row_eq (key c) many hm mu
  have b6 := row_eq (other c) many hm mu
  have m1 : DM.gMod (.int (sp (key c))) (.int many) mu = some (.int ((sp (key c) : Int) % many)) := g_mod (by omega)
  have m2 : DM.gMod (.int (sp (other c))) (.int many) mu = some (.int ((sp (other c) : Int) % many)) := g_mod (by omega)
  have w1 : f__law_whole [.int (sp (key c)), .int (sp (key c))] mu = .ok (.bl true) mu := whole_t _ mu
  have w2 : f__law_whole [.int (sp (other c)), .int (sp (other c))] mu = .ok (.bl true) mu := whole_t _ mu
  have w3 : f__law_whole [.int ((sp (key c) : Int) % many), .int ((sp (key c) : Int) % many)] mu = .ok (.bl true) mu := whole_t _ mu
  have w4 : f__law_whole [.int ((sp (other c) : Int) % many), .int ((sp (other c) : Int) % many)] mu = .ok (.bl true) mu := whole_t _ mu
  refine ⟨some (.str (key c)), some (.str (other c)), some (.int many), es_seq (m1 := mu) (es_set (d := .str (key c)) ?_) (es_seq (m1 := mu) (es_set (d := .str (other c)) ?_) (es_seq (m1 := mu) (es_set (d := .int many) e1) (es_seq (m1 := mu) (es_if_f (m1 := mu) (ev_not (b := true) ?_) es_nx) (es_seq (m1 := mu) (es_if_f (m1 := mu) (ev_not (b := true) ?_) es_nx) (es_seq (m1 := mu) (es_if_f (m1 := mu) (ev_not (b := true) ?_) es_nx) (es_seq (m1 := mu) (es_if_f (m1 := mu) (ev_not (b := true) ?_) es_nx) (es_if_f (m1 := mu) (ev_not (b := true) ?_) es_nx)))))))⟩
  · repeat (first | (with_reducible apply ev_var; exact rfl) | with_reducible exact ev_c | with_reducible exact a1 | with_reducible apply ev_op | with_reducible apply ev_cb | with_reducible apply ev_call0 | with_reducible exact ea_nil | with_reducible apply ea_cons | with_reducible apply ev_B | with_reducible apply ev_not | with_reducible apply ev_I | with_reducible apply ev_sl | with_reducible apply ev_m1 | with_reducible apply ev_neg | with_reducible apply ev_tup | with_reducible apply ev_lst | with_reducible apply ev_tru | with_reducible assumption | exact rfl)
  · repeat (first | (with_reducible apply ev_var; exact rfl) | with_reducible exact ev_c | with_reducible exact a2 | with_reducible apply ev_op | with_reducible apply ev_cb | with_reducible apply ev_call0 | with_reducible exact ea_nil | with_reducible apply ea_cons | with_reducible apply ev_B | with_reducible apply ev_not | with_reducible apply ev_I | with_reducible apply ev_sl | with_reducible apply ev_m1 | with_reducible apply ev_neg | with_reducible apply ev_tup | with_reducible apply ev_lst | with_reducible apply ev_tru | with_reducible assumption | exact rfl)
  · repeat (first | (with_reducible apply ev_var; exact rfl) | with_reducible exact ev_c | with_reducible exact b1 | with_reducible exact b2 | with_reducible exact w1 | with_reducible exact tru_b | with_reducible apply ev_op | with_reducible apply ev_cb | with_reducible apply ev_call0 | with_reducible exact ea_nil | with_reducible apply ea_cons | with_reducible apply ev_B | with_reducible apply ev_not | with_reducible apply ev_I | with_reducible apply ev_sl | with_reducible apply ev_m1 | with_reducible apply ev_neg | with_reducible apply ev_tup | with_reducible apply ev_lst | with_reducible apply ev_tru | with_reducible assumption | exact rfl)
  · repeat (first | (with_reducible apply ev_var; exact rfl) | with_reducible exact ev_c | with_reducible exact b3 | with_reducible exact b4 | with_reducible exact w2 | with_reducible exact tru_b | with_reducible apply ev_op | with_reducible apply ev_cb | with_reducible apply ev_call0 | with_reducible exact ea_nil | with_reducible apply ea_cons | with_reducible apply ev_B | with_reducible apply ev_not | with_reducible apply ev_I | with_reducible apply ev_sl | with_reducible apply ev_m1 | with_reducible apply ev_neg | with_reducible apply ev_tup | with_reducible apply ev_lst | with_reducible apply ev_tru | with_reducible assumption | exact rfl)
  · repeat (first | (with_reducible apply ev_var; exact rfl) | with_reducible exact ev_c | with_reducible exact b5 | with_reducible exact b2 | with_reducible exact m1 | with_reducible exact w3 | with_reducible exact tru_b | with_reducible apply ev_op | with_reducible apply ev_cb | with_reducible apply ev_call0 | with_reducible exact ea_nil | with_reducible apply ea_cons | with_reducible apply ev_B | with_reducible apply ev_not | with_reducible apply ev_I | with_reducible apply ev_sl | with_reducible apply ev_m1 | with_reducible apply ev_neg | with_reducible apply ev_tup | with_reducible apply ev_lst | with_reducible apply ev_tru | with_reducible assumption | exact rfl)
  · repeat (first | (with_reducible apply ev_var; exact rfl) | with_reducible exact ev_c | with_reducible exact b6 | with_reducible exact b4 | with_reducible exact m2 | with_reducible exact w4 | with_reducible exact tru_b | with_reducible apply ev_op | with_reducible apply ev_cb | with_reducible apply ev_call0 | with_reducible exact ea_nil | with_reducible apply ea_cons | with_reducible apply ev_B | with_reducible apply ev_not | with_reducible apply ev_I | with_reducible apply ev_sl | with_reducible apply ev_m1 | with_reducible apply ev_neg | with_reducible apply ev_tup | with_reducible apply ev_lst | with_reducible apply ev_tru | with_reducible assumption | exact rfl)
  · repeat (first | (with_reducible apply ev_var; exact rfl) | with_reducible exact ev_c | with_reducible exact b1 | with_reducible exact b2 | with_reducible exact w1 | with_reducible exact tru_b | with_reducible apply ev_op | with_reducible apply ev_cb | with_reducible apply ev_call0 | with_reducible exact ea_nil | with_reducible apply ea_cons | with_reducible apply ev_B | with_reducible apply ev_not | with_reducible apply ev_I | with_reducible apply ev_sl | with_reducible apply ev_m1 | with_reducible apply ev_neg | with_reducible apply ev_tup | with_reducible apply ev_lst | with_reducible apply ev_tru | with_reducible assumption | exact rfl)
theorem law_true (ns : List Int) (hl : ns.length ≤ 63) : ∃ mu, f_law (DM.lawIn ns) [] = .ok (.bl true) mu := by
  refine ⟨[], ?_⟩
  have s1 : gAdd (.lst (ns.map DV.int)) (.lst [.int 0]) [] = some (.lst ((ns ++ [0]).map .int)) := (gAdd_lst (by rw [List.length_map]; show _ + 1 ≤ _; omega)).trans (by rw [List.map_append]; rfl)
  have s2 : gSl (.lst ((ns ++ [0]).map DV.int)) none (some 20) ([] : Mu) = some (.lst (((ns ++ [0]).take 20).map .int)) := by
    have := gSl_toL (mu := ([] : Mu)) (z := (ns ++ [0]).map DV.int) 20
    rw [← List.map_take] at this
    exact this
  have l1 : ([DV.int 0]).length ≤ 1000000 := by simp
  obtain ⟨dl', mu', e, rfl, h⟩ := sFor_fold (α := Int) (β := Unit) (f := (iSeq (eSl (eOp gAdd (eVar 0) (eLst [(eC (.int 0))])) (eC .non) (eI (eC (.int 20)))))) (t := tgN 1) (body := bodyL) (J := fun _ dl m => m = [] ∧ ∃ w x y z, dl = [some (.lst (ns.map .int)), w, x, y, z]) (step := fun _ _ => ()) (xs := (ns ++ [0]).take 20) (dv := .int) (b := ()) (dl := [some (.lst (ns.map .int)), none, none, none, none]) (mu := []) (m1 := [])
    (it_seq (d := .lst (((ns ++ [0]).take 20).map .int)) (m1 := []) (by repeat (first | (with_reducible apply ev_var; exact rfl) | with_reducible exact ev_c | with_reducible exact s1 | with_reducible exact s2 | with_reducible exact l1 | with_reducible apply ev_op | with_reducible apply ev_cb | with_reducible apply ev_call0 | with_reducible exact ea_nil | with_reducible apply ea_cons | with_reducible apply ev_B | with_reducible apply ev_not | with_reducible apply ev_I | with_reducible apply ev_sl | with_reducible apply ev_m1 | with_reducible apply ev_neg | with_reducible apply ev_tup | with_reducible apply ev_lst | with_reducible apply ev_tru | with_reducible assumption | exact rfl)) rfl) ⟨rfl, none, none, none, none, rfl⟩ (by
      rintro c _ dl m _ ⟨rfl, w, x, y, z, rfl⟩
      obtain ⟨x', y', z', e⟩ := turn_k (.lst (ns.map .int)) c x y z []
      exact ⟨_, rfl, _, _, .inl e, rfl, _, _, _, _, rfl⟩)
  exact runF_rt rfl (es_seq e (es_ret ev_c))

end LawM
open PySem PySem.W PySem.Calls PyProof.Rows
set_option maxRecDepth 100000 in
set_option maxHeartbeats 0 in
theorem PySem.Challenge.cw_lettercell_k02_rows_of_keys_holds : PySem.Challenge.rw_lettercell_k02_rows_of_keys.Holds := by
  w_on; o_law
  refine HandSHeadRun.head_any (r := OpenLaw.row PySem.Challenge.rw_lettercell_k02_rows_of_keys) (q := view (OpenLaw.row PySem.Challenge.rw_lettercell_k02_rows_of_keys).prog [12]) (H := LawM.hk) (ob := LawM.ob) (M := 4000) (loose := LawM.loose) (d := HandSHeadRun.topDef (OpenLaw.row PySem.Challenge.rw_lettercell_k02_rows_of_keys).prog 12) (kwd := []) LawM.ob_eq
    (by kernel_rfl) (fun s => by kernel_rfl) LawM.run (by kernel_rfl) (by kernel_rfl) (by kernel_rfl) (by rfl) (by first | assumption | decide +kernel) (by decide +kernel) ⟨rfl, rfl, rfl, rfl, rfl, by decide +kernel⟩ ?hw ?hc
  case hw => w_witness2
  case hc =>
    refine L2.walk_ofE (l := PySem.Challenge.rw_lettercell_k02_rows_of_keys) (n := 63) (k := 3) (x := "_law_script") (CX := L2.CX0) rfl (by decide) (by kernel_rfl) ⟨rfl, by decide, by decide⟩ ?F (fun _ _ _ _ z => z)
    intro w mg fa h Y G hmg0
    obtain ⟨K, KX, c⟩ := Y
    have hmg : mg ("law" : PySem.Str) = some (.ref fa) := by
      have e : (HandSHeadRun.topDef (OpenLaw.row PySem.Challenge.rw_lettercell_k02_rows_of_keys).prog 12).name = ("law" : PySem.Str) := by kernel_rfl
      rw [← e]
      exact hmg0
    have T := LawM.tx KX G c
    obtain ⟨fd, Fd⟩ := T.d_law
    have e := hmg.symm.trans T.g_law
    cases e
    have b := Fd.bindsA (ps := ["_law_script"]) fun _ _ _ _ _ _ us hl => match us, hl with | [_], _ => rfl
    exact ⟨K, fd, fun vs H Q _ => DM.spF K (LawM.cmK K) 1 LawM.f_law vs H Q (fun _ _ _ => False), KX, fun s v => b s [v] rfl, fun H a ns hl hO hS => DM.law_sp hO hS (LawM.law_true ns hl), fun base _ _ => DM.noexc (LawM.p_law T Fd)⟩
